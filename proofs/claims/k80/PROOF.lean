import PyProof.Rows.All
import Wide.All
import OpenK.AllK
import Wide.FinOn
import HandS.ForMost
import HandS.ForSpec
import HandS.Evl
import HandS.Deep
import HandS.IsInst
import HandS.SortInts
import HandS.Style
import HandS.NoneIn
import HandS.Wide
import HandS.TupAny
import KE.DataEq
import HandS.Lambda
import KE.SortCalls
import HandS.Remove
import HandS.SetFor
import HandS.Strs
import HandS.Conv
import PyProof.StrLawsRepr
import HandS.ExcIs
import HandS.ExcOwn
import HandS.ExcValue
import HandS.Text
import HandS.TupSets
import HandS.Iter
import PySem.Challenge.RW_ontheline_k80_rankings_and_folk_written
set_option Elab.async false
set_option linter.all false
set_option maxRecDepth 100000
set_option maxHeartbeats 4000000
/-! DL: a layer of values over the layer of heaps -/
noncomputable section
namespace DL
open PySem L2
open Evl (Ex)

/-! ### data -/
structure Exn where
  name : String
  arg : Option PyData
inductive OD where
  | dict (kvs : List (Key × PyData)) | dictT (kvs : List (List Key × PyData)) | exc (x : Exn) | set (S : Int → Bool) (n : Nat) | scr (ns : List Int) | excs (n : String) (is : List Int)
inductive R where
  | val (d : PyData) | new (ds : List PyData) | slot (i : Nat) | raw (v : V) | ob (o : OD)
inductive Sl where
  | no | val (d : PyData) | own (ds : List PyData) | raw (v : V) | ob (o : OD)
abbrev Pw := Option (Addr × Addr × List Int × Int)
structure DSt where
  d : List Sl
  w : Pw
inductive Res (α : Type) where
  | ok (a : α) (s : DSt) | err (x : Exn) (s : DSt) | stuck
inductive Flow where
  | next (s : DSt) | ret (r : R) (s : DSt) | brk (s : DSt) | cnt (s : DSt) | err (x : Exn) (s : DSt) | stuck
inductive FRes where
  | ok (r : R) (w : Pw) | err (x : Exn) (w : Pw) | stuck

abbrev M (α : Type) := DSt → Res α
def inB (j : Int) : Prop := -(2 ^ 62) ≤ j ∧ j < 2 ^ 62
instance (j : Int) : Decidable (inB j) := Classical.propDecidable _
def inW (j : Int) : Prop := -(2 ^ 63) ≤ j ∧ j < 2 ^ 63
instance (j : Int) : Decidable (inW j) := Classical.propDecidable _
def leS (n : Nat) : Prop := n ≤ sizeLine
instance (n : Nat) : Decidable (leS n) := Classical.propDecidable _
def ltS (n : Nat) : Prop := n < sizeLine
instance (n : Nat) : Decidable (ltS n) := Classical.propDecidable _
def lgM (a b : Int) : Prop := a.natAbs.log2 + b.natAbs.log2 < 1000000
instance (a b : Int) : Decidable (lgM a b) := Classical.propDecidable _
def lgD (a : Int) : Prop := a.natAbs.log2 < 9000
instance (a : Int) : Decidable (lgD a) := Classical.propDecidable _
def lgP (a : Int) : Prop := a.natAbs.log2 < 4000
instance (a : Int) : Decidable (lgP a) := Classical.propDecidable _
def leP (a : Int) : Prop := a ≤ 30000
instance (a : Int) : Decidable (leP a) := Classical.propDecidable _
def Res.bind {α β : Type} (r : Res α) (g : α → M β) : Res β := match r with
  | .ok a s => g a s
  | .err x s => .err x s
  | .stuck => .stuck
def bnd {α β : Type} (f : M α) (g : α → M β) : M β := fun s => (f s).bind g
def ret {α : Type} (a : α) : M α := fun s => .ok a s
def stk {α : Type} : M α := fun _ => .stuck
@[simp] theorem bnd_app {α β : Type} (f : M α) (g : α → M β) (s : DSt) : bnd f g s = (f s).bind g := rfl
@[simp] theorem bind_ok {α β : Type} (a : α) (s : DSt) (g : α → M β) : (Res.ok a s).bind g = g a s := rfl
@[simp] theorem bind_err {α β : Type} (x : Exn) (s : DSt) (g : α → M β) : (Res.err x s : Res α).bind g = .err x s := rfl
@[simp] theorem bind_stuck {α β : Type} (g : α → M β) : (Res.stuck : Res α).bind g = .stuck := rfl
@[simp] theorem ret_app {α : Type} (a : α) (s : DSt) : ret a s = .ok a s := rfl
@[simp] theorem stk_app {α : Type} (s : DSt) : (stk s : Res α) = .stuck := rfl

/-! ### data as it stands in a heap -/
mutual
inductive Rp (K : PySem.W.Frag) (H : Hp) : V → PyData → Prop
  | non : Rp K H .non .none
  | bl (b : Bool) : Rp K H (.bl b) (.bool b)
  | int (i : Int) : Rp K H (.int i) (.int i)
  | str (x : Str) : Rp K H (.str x) (.str x)
  | lst {a : Addr} {xs : List V} {ds : List PyData} : H a = some (.lst xs) → RpAll K H xs ds → Rp K H (.ref a) (.list ds)
  | tup {a : Addr} {xs : List V} {ds : List PyData} : H a = some (.tup xs) → RpAll K H xs ds → Rp K H (.ref a) (.tuple ds)
inductive RpAll (K : PySem.W.Frag) (H : Hp) : List V → List PyData → Prop
  | nil : RpAll K H [] []
  | cons {v : V} {vs : List V} {d : PyData} {ds : List PyData} : Rp K H v d → RpAll K H vs ds → RpAll K H (v :: vs) (d :: ds)
end
mutual
theorem rp_dp {K : PySem.W.Frag} {H : Hp} : ∀ (d : PyData) (v : V), Rp K H v d → Dp K H v d
  | .none, _, h => by cases h; exact .non
  | .bool b, _, h => by cases h; exact .bl b
  | .int i, _, h => by cases h; exact .int i
  | .str x, _, h => by cases h; exact .str x
  | .list ds, _, h => by
    cases h with
    | lst hs ha => exact .lst (.of hs) (rps_dps ds _ ha)
  | .tuple ds, _, h => by
    cases h with
    | tup hs ha => exact .tup (.of hs) (rps_dps ds _ ha)
  | .dict _, _, h => by cases h
theorem rps_dps {K : PySem.W.Frag} {H : Hp} : ∀ (ds : List PyData) (vs : List V), RpAll K H vs ds → DpAll K H vs ds
  | [], _, h => by cases h; exact .nil
  | d :: ds, _, h => by
    cases h with
    | cons h1 h2 => exact .cons (rp_dp d _ h1) (rps_dps ds _ h2)
end
mutual
theorem rp_plain {K : PySem.W.Frag} {H : Hp} : ∀ (d : PyData) (v : V), Rp K H v d → d.plain = true
  | .none, _, _ => rfl
  | .bool b, _, _ => rfl
  | .int i, _, _ => rfl
  | .str x, _, _ => rfl
  | .list ds, _, h => by
    cases h with
    | lst hs ha => simp only [PyData.plain]; exact rps_plain ds _ ha
  | .tuple ds, _, h => by
    cases h with
    | tup hs ha => simp only [PyData.plain]; exact rps_plain ds _ ha
  | .dict _, _, h => by cases h
theorem rps_plain {K : PySem.W.Frag} {H : Hp} : ∀ (ds : List PyData) (vs : List V), RpAll K H vs ds → PyData.plainAll ds = true
  | [], _, h => rfl
  | d :: ds, _, h => by
    cases h with
    | cons h1 h2 => simp [PyData.plainAll, rp_plain d _ h1, rps_plain ds _ h2]
end
mutual
theorem dp_mono {K : PySem.W.Frag} {H H' : Hp} (e : Ex H H') : ∀ (d : PyData) (v : V), Rp K H v d → Rp K H' v d
  | .none, _, h => by cases h; exact .non
  | .bool b, _, h => by cases h; exact .bl b
  | .int i, _, h => by cases h; exact .int i
  | .str x, _, h => by cases h; exact .str x
  | .list ds, _, h => by
    cases h with
    | lst hs ha => exact .lst (e _ _ hs) (dps_mono e ds _ ha)
  | .tuple ds, _, h => by
    cases h with
    | tup hs ha => exact .tup (e _ _ hs) (dps_mono e ds _ ha)
  | .dict _, _, h => by cases h
theorem dps_mono {K : PySem.W.Frag} {H H' : Hp} (e : Ex H H') : ∀ (ds : List PyData) (vs : List V), RpAll K H vs ds → RpAll K H' vs ds
  | [], _, h => by cases h; exact .nil
  | d :: ds, _, h => by
    cases h with
    | cons h1 h2 => exact .cons (dp_mono e d _ h1) (dps_mono e ds _ h2)
end
theorem dps_len {K : PySem.W.Frag} {H : Hp} : ∀ {ds : List PyData} {vs : List V}, RpAll K H vs ds → vs.length = ds.length
  | [], _, h => by cases h; rfl
  | d :: ds, _, h => by
    cases h with
    | cons h1 h2 => simp [dps_len h2]
theorem dps_get {K : PySem.W.Frag} {H : Hp} : ∀ {ds : List PyData} {vs : List V} {i : Nat} {v : V}, RpAll K H vs ds → vs[i]? = some v → ∃ d, ds[i]? = some d ∧ Rp K H v d
  | [], _, i, v, h, e => by cases h; simp at e
  | d :: ds, _, 0, v, h, e => by
    cases h with
    | cons h1 h2 => simp at e; subst e; exact ⟨d, rfl, h1⟩
  | d :: ds, _, i + 1, v, h, e => by
    cases h with
    | cons h1 h2 => simpa using dps_get (i := i) h2 (by simpa using e)
theorem dps_app {K : PySem.W.Frag} {H : Hp} : ∀ {ds es : List PyData} {vs us : List V}, RpAll K H vs ds → RpAll K H us es → RpAll K H (vs ++ us) (ds ++ es)
  | [], _, _, _, h, h' => by cases h; exact h'
  | d :: ds, _, _, _, h, h' => by
    cases h with
    | cons h1 h2 => exact .cons h1 (dps_app h2 h')
theorem dps_take {K : PySem.W.Frag} {H : Hp} : ∀ {ds : List PyData} {vs : List V} (n : Nat), RpAll K H vs ds → RpAll K H (vs.take n) (ds.take n)
  | _, _, 0, _ => by simp; exact .nil
  | [], _, n + 1, h => by cases h; exact .nil
  | d :: ds, _, n + 1, h => by
    cases h with
    | cons h1 h2 => exact .cons h1 (dps_take n h2)
theorem dps_drop {K : PySem.W.Frag} {H : Hp} : ∀ {ds : List PyData} {vs : List V} (n : Nat), RpAll K H vs ds → RpAll K H (vs.drop n) (ds.drop n)
  | _, _, 0, h => by simpa using h
  | [], _, n + 1, h => by cases h; exact .nil
  | d :: ds, _, n + 1, h => by
    cases h with
    | cons h1 h2 => exact dps_drop n h2
theorem dps_set {K : PySem.W.Frag} {H : Hp} {v : V} {d : PyData} (q : Rp K H v d) : ∀ {ds : List PyData} {vs : List V} (n : Nat), RpAll K H vs ds → RpAll K H (vs.set n v) (ds.set n d)
  | [], _, n, h => by cases h; exact .nil
  | _ :: ds, _, 0, h => by
    cases h with
    | cons h1 h2 => exact .cons q h2
  | _ :: ds, _, n + 1, h => by
    cases h with
    | cons h1 h2 => exact .cons h1 (dps_set q n h2)
/-! ### other things -/
def clOf (K : PySem.W.Frag) (n : String) : Addr := match PySem.W.nsIn K mainGlobals (Str.ofString n) with
  | some (some (.ref a)) => a
  | _ => 0
theorem clOf_of {K : PySem.W.Frag} {n : String} {a : Addr} (h : PySem.W.nsIn K mainGlobals (Str.ofString n) = some (some (.ref a))) : clOf K n = a := by
  unfold clOf
  rw [h]
def fieldOf (n : String) : Str := if n = "NoFall" then "hand" else "at"
def ExA (K : PySem.W.Frag) (H : Hp) (n : String) (d : Option Addr) : Option PyData → Prop
  | none => d = none
  | some e => ∃ dd v, d = some dd ∧ H dd = some (.xd [(fieldOf n, v)]) ∧ Rp K H v e
def excO (a : Addr) (cls : Value) (d : Option Addr) : HO := .ext fun h => ∃ o, h.get? a = some o ∧ Zc cls d o ∧ ∃ vs, o.data = .fields vs
inductive KRp {κ : Type} (K : PySem.W.Frag) (H : Hp) : List (κ × V) → List (κ × PyData) → Prop
  | nil : KRp K H [] []
  | cons {k : κ} {v : V} {d : PyData} {xs : List (κ × V)} {ys : List (κ × PyData)} : Rp K H v d → KRp K H xs ys → KRp K H ((k, v) :: xs) ((k, d) :: ys)
inductive ExAll (K : PySem.W.Frag) (H : Hp) (n : String) : List V → List Int → Prop
  | nil : ExAll K H n [] []
  | cons {b d : Addr} {i : Int} {vs : List V} {is : List Int} : H b = some (excO b (.ref (clOf K n)) (some d)) → H d = some (.xd [(fieldOf n, .int i)]) → ExAll K H n vs is → ExAll K H n (.ref b :: vs) (i :: is)
theorem exall_mono {K : PySem.W.Frag} {H H' : Hp} (e : Ex H H') {n : String} : ∀ {vs : List V} {is : List Int}, ExAll K H n vs is → ExAll K H' n vs is
  | _, _, .nil => .nil
  | _, _, .cons h1 h2 t => .cons (e _ _ h1) (e _ _ h2) (exall_mono e t)
def ObRel (K : PySem.W.Frag) (H : Hp) (v : V) : OD → Prop
  | .dict kvs => ∃ a vs, v = .ref a ∧ H a = some (.dK vs) ∧ KRp K H vs kvs
  | .dictT kvs => ∃ a vs, v = .ref a ∧ H a = some (.dT vs) ∧ KRp K H vs kvs
  | .exc x => ∃ a d, v = .ref a ∧ H a = some (excO a (.ref (clOf K x.name)) d) ∧ ExA K H x.name d x.arg
  | .set S n => ∃ a, v = .ref a ∧ H a = some (.set S n)
  | .scr ns => ∃ a, v = .ref a ∧ SqL K H a (ns.map V.int)
  | .excs n is => ∃ a vs, v = .ref a ∧ H a = some (.lst vs) ∧ ExAll K H n vs is
theorem krp_mono {κ : Type} {K : PySem.W.Frag} {H H' : Hp} (e : Ex H H') : ∀ {vs : List (κ × V)} {kvs : List (κ × PyData)}, KRp K H vs kvs → KRp K H' vs kvs
  | _, _, .nil => .nil
  | _, _, .cons h t => .cons (dp_mono e _ _ h) (krp_mono e t)
theorem exa_mono {K : PySem.W.Frag} {H H' : Hp} (e : Ex H H') {n : String} {d : Option Addr} : ∀ {o : Option PyData}, ExA K H n d o → ExA K H' n d o
  | none, h => h
  | some x, ⟨dd, v, h1, h2, h3⟩ => ⟨dd, v, h1, e _ _ h2, dp_mono e _ _ h3⟩
theorem ob_mono {K : PySem.W.Frag} {H H' : Hp} (e : Ex H H') {v : V} : ∀ {o : OD}, ObRel K H v o → ObRel K H' v o
  | .dict kvs, ⟨a, vs, h1, h2, h3⟩ => ⟨a, vs, h1, e _ _ h2, krp_mono e h3⟩
  | .dictT kvs, ⟨a, vs, h1, h2, h3⟩ => ⟨a, vs, h1, e _ _ h2, krp_mono e h3⟩
  | .exc x, ⟨a, d, h1, h2, h3⟩ => ⟨a, d, h1, e _ _ h2, exa_mono e h3⟩
  | .set S n, ⟨a, h1, h2⟩ => ⟨a, h1, e _ _ h2⟩
  | .scr ns, ⟨a, h1, h2⟩ => ⟨a, h1, Evl.ex_l e h2⟩
  | .excs n is, ⟨a, vs, h1, h2, h3⟩ => ⟨a, vs, h1, e _ _ h2, exall_mono e h3⟩

/-! ### the state -/
@[irreducible] def tabA : List (Addr × Str) := []
def TOwn (a : Addr) : Prop := ∃ q, (a, q) ∈ tabA
def POwn0 (w : Pw) (a : Addr) : Prop := match w with
  | none => False
  | some (pa, ca, _, _) => a = pa ∨ a = ca
def POwn (w : Pw) (a : Addr) : Prop := POwn0 w a ∨ TOwn a
def OwnAt (s : DSt) (σ : L2.St) (i : Nat) (a : Addr) : Prop := (∃ ds, s.d[i]? = some (.own ds)) ∧ σ[i]? = some (some (.ref a))
def Own (s : DSt) (σ : L2.St) (a : Addr) : Prop := (∃ i, OwnAt s σ i a) ∨ POwn s.w a
def pwA (pa ca : Addr) (cells : List Int) (t : Int) : List V := if pa = ca then cells.map .int else [.ref ca, .int t]
def PwOk0 (G : Hp) (w : Pw) (H : Hp) : Prop := match w with
  | none => True
  | some (pa, ca, cells, t) => True ∧ H pa = some (.lst (pwA pa ca cells t)) ∧ H ca = some (.lst (cells.map .int)) ∧ G pa = none ∧ G ca = none
def TabOk (G H : Hp) : Prop := ∀ p ∈ tabA, LamX.TabS H p.1 p.2 ∧ G p.1 = none
def PwOk (G : Hp) (w : Pw) (H : Hp) : Prop := PwOk0 G w H ∧ TabOk G H
theorem TabOk.to {G G' H H' : Hp} (t : TabOk G H) (k : ∀ a o, H a = some o → TOwn a → H' a = some o) (x : ∀ a φ, H a = some (.ext φ) → H' a = some (.ext φ)) (g : ∀ a, TOwn a → G' a = none) : TabOk G' H' := fun p hp => by
  obtain ⟨⟨ps, h1, h2, h3⟩, _⟩ := t p hp
  refine ⟨⟨ps, k _ _ h1 ⟨p.2, hp⟩, h2, fun pos cv hc => ?_⟩, g _ ⟨p.2, hp⟩⟩
  obtain ⟨c, e1, e2⟩ := h3 pos cv hc
  exact ⟨c, e1, x _ _ e2⟩
theorem TabOk.g {G H : Hp} (t : TabOk G H) {a : Addr} (z : TOwn a) : G a = none := by
  obtain ⟨q, hq⟩ := z
  exact (t _ hq).2
theorem TabOk.h {G H : Hp} (t : TabOk G H) {a : Addr} (z : TOwn a) : ∃ ps, H a = some (.tbl ps) := by
  obtain ⟨q, hq⟩ := z
  obtain ⟨⟨ps, h, _⟩, _⟩ := t _ hq
  exact ⟨ps, h⟩
theorem G_pown {G H : Hp} {w : Pw} (p : PwOk G w H) {a : Addr} (h : POwn w a) : G a = none := by
  rcases h with h | h
  · replace p := p.1
    unfold PwOk0 at p
    unfold POwn0 at h
    split at h
    · exact h.elim
    · rcases h with rfl | rfl
      · exact p.2.2.2.1
      · exact p.2.2.2.2
  · exact p.2.g h
theorem H_pown {G H : Hp} {w : Pw} (p : PwOk G w H) {a : Addr} (h : POwn w a) : (∃ xs, H a = some (.lst xs)) ∨ ∃ ps, H a = some (.tbl ps) := by
  rcases h with h | h
  · left
    replace p := p.1
    unfold PwOk0 at p
    unfold POwn0 at h
    split at h
    · exact h.elim
    · rcases h with rfl | rfl
      · exact ⟨_, p.2.1⟩
      · exact ⟨_, p.2.2.1⟩
  · exact .inr (p.2.h h)
theorem pwok_to {w : Pw} {G G' H H' : Hp} (q : PwOk G w H) (k : ∀ a o, H a = some o → POwn w a → H' a = some o) (x : ∀ a φ, H a = some (.ext φ) → H' a = some (.ext φ)) (g : ∀ a, POwn w a → G' a = none) : PwOk G' w H' := by
  refine ⟨?_, q.2.to (fun a o h z => k a o h (.inr z)) x fun a z => g a (.inr z)⟩
  have q := q.1
  unfold PwOk0 at q ⊢
  split
  · trivial
  · rename_i pa ca cells t
    exact ⟨q.1, k _ _ q.2.1 (.inl (.inl rfl)), k _ _ q.2.2.1 (.inl (.inr rfl)), g _ (.inl (.inl rfl)), g _ (.inl (.inr rfl))⟩
def SlOk (K : PySem.W.Frag) (G H : Hp) (x : Option V) : Sl → Prop
  | .no => True
  | .val d => ∃ v, x = some v ∧ Rp K G v d
  | .raw v => x = some v
  | .ob o => ∃ v, x = some v ∧ ObRel K G v o
  | .own ds => ∃ a xs, x = some (.ref a) ∧ H a = some (.lst xs) ∧ RpAll K G xs ds
structure SA (K : PySem.W.Frag) (G : Hp) (s : DSt) (σ : L2.St) (H : Hp) : Prop where
  len : s.d.length = σ.length
  gh : Ex G H
  slot : ∀ (i : Nat) (sl : Sl), s.d[i]? = some sl → SlOk K G H (σ[i]?.join) sl
  inj : ∀ i j a, OwnAt s σ i a → OwnAt s σ j a → i = j
  ownG : ∀ i a, OwnAt s σ i a → G a = none
  pw : PwOk G s.w H
  pne : ∀ i a, OwnAt s σ i a → ¬ POwn s.w a
structure Stp (G : Hp) (s : DSt) (σ : L2.St) (H : Hp) (G' : Hp) (s' : DSt) (σ' : L2.St) (H' : Hp) : Prop where
  ex : Ex G G'
  keep : ∀ a o, H a = some o → ¬ Own s σ a → H' a = some o ∧ G' a = G a
  own : ∀ a, Own s' σ' a → Own s σ a ∨ H a = none
  dom : ∀ a, H a ≠ none → H' a ≠ none
  pw : ∀ a, POwn s.w a → POwn s'.w a
theorem Stp.refl {G H : Hp} {s : DSt} {σ : L2.St} : Stp G s σ H G s σ H := ⟨Ex.refl G, fun _ _ h _ => ⟨h, rfl⟩, fun _ h => .inl h, fun _ h => h, fun _ h => h⟩
theorem Stp.trans {G G1 G2 H H1 H2 : Hp} {s s1 s2 : DSt} {σ σ1 σ2 : L2.St} (a : Stp G s σ H G1 s1 σ1 H1) (b : Stp G1 s1 σ1 H1 G2 s2 σ2 H2) : Stp G s σ H G2 s2 σ2 H2 where
  ex := a.ex.trans b.ex
  keep := fun x o h n => by
    obtain ⟨h1, g1⟩ := a.keep x o h n
    have n1 : ¬ Own s1 σ1 x := fun z => (a.own x z).elim n fun e => by rw [h] at e; cases e
    obtain ⟨h2, g2⟩ := b.keep x o h1 n1
    exact ⟨h2, g2.trans g1⟩
  own := fun x z => (b.own x z).elim (a.own x) fun e => .inr (Classical.byContradiction fun q => a.dom x q e)
  dom := fun x h => b.dom x (a.dom x h)
  pw := fun x h => b.pw x (a.pw x h)
def RRel (K : PySem.W.Frag) (H0 G : Hp) (s : DSt) (σ : L2.St) (H : Hp) (v : V) : R → Prop
  | .val d => Rp K G v d
  | .raw u => v = u
  | .ob o => ObRel K G v o
  | .slot i => σ[i]? = some (some v)
  | .new ds => ∃ a xs, v = .ref a ∧ H a = some (.lst xs) ∧ RpAll K G xs ds ∧ G a = none ∧ H0 a = none ∧ ¬ Own s σ a
theorem RRel.mono {K : PySem.W.Frag} {H0 G H G' H' : Hp} {s s' : DSt} {σ : L2.St} {v : V} {r : R} (h : RRel K H0 G s σ H v r) (t : Stp G s σ H G' s' σ H') : RRel K H0 G' s' σ H' v r := by
  cases r with
  | val d => exact dp_mono t.ex d v h
  | raw u => exact h
  | ob o => exact ob_mono t.ex h
  | slot i => exact h
  | new ds =>
    obtain ⟨a, xs, e, ha, hd, hg, h0, hn⟩ := h
    obtain ⟨h1, g1⟩ := t.keep a _ ha hn
    refine ⟨a, xs, e, h1, dps_mono t.ex _ _ hd, g1.trans hg, h0, fun z => (t.own a z).elim hn fun q => by rw [ha] at q; cases q⟩
theorem RRel.less {K : PySem.W.Frag} {H0 H1 G H : Hp} {s : DSt} {σ : L2.St} {v : V} {r : R} (h : RRel K H1 G s σ H v r) (d : ∀ a, H0 a ≠ none → H1 a ≠ none) : RRel K H0 G s σ H v r := by
  cases r with
  | val d => exact h
  | raw u => exact h
  | ob o => exact h
  | slot i => exact h
  | new ds =>
    obtain ⟨a, xs, e, ha, hd, hg, h0, hn⟩ := h
    exact ⟨a, xs, e, ha, hd, hg, Classical.byContradiction fun q => d a q h0, hn⟩
def look (r : R) (s : DSt) : Option PyData := match r with
  | .val d => some d
  | .raw _ => none
  | .ob _ => none
  | .new ds => some (.list ds)
  | .slot i => match s.d[i]? with
    | some (.own ds) => some (.list ds)
    | some (.val d) => some d
    | _ => none
theorem look_ok {K : PySem.W.Frag} {H0 G H : Hp} {s : DSt} {σ : L2.St} {v : V} {r : R} {d : PyData} (S : SA K G s σ H) (h : RRel K H0 G s σ H v r) (e : look r s = some d) : Rp K H v d := by
  cases r with
  | val d' => cases e; exact dp_mono S.gh _ _ h
  | raw u => cases e
  | ob o => cases e
  | new ds =>
    cases e
    obtain ⟨a, xs, rfl, ha, hd, _⟩ := h
    exact .lst ha (dps_mono S.gh _ _ hd)
  | slot i =>
    simp only [look] at e
    have h' : σ[i]? = some (some v) := h
    split at e
    · rename_i ds q
      cases e
      obtain ⟨a, xs, e1, ha, hd⟩ := S.slot i _ q
      rw [h'] at e1
      cases e1
      exact .lst ha (dps_mono S.gh _ _ hd)
    · rename_i d' q
      cases e
      obtain ⟨u, e1, hd⟩ := S.slot i _ q
      rw [h'] at e1
      cases e1
      exact dp_mono S.gh _ _ hd
    · cases e
end DL

/-! DL2: the judgements -/
noncomputable section
namespace DL
open PySem L2
open Evl (Ex)

def XRel (K : PySem.W.Frag) (cl : String → Addr) (x : Exn) (cls : Value) (d : Option Addr) (H : Hp) : Prop :=
  cls = .ref (cl x.name) ∧ ExA K H x.name d x.arg
section
variable (K : PySem.W.Frag) (cl : String → Addr) (W : WX)
def Out {α : Type} (G : Hp) (s : DSt) (σ : L2.St) (H : Hp) (r : Res α) (k : α → Hp → DSt → Hp → Prop) : Prop := match r with
  | .ok a s' => ∀ G' H', Stp G s σ H G' s' σ H' → SA K G' s' σ H' → k a G' s' H'
  | .err x s' => ∀ cls d G' H', Stp G s σ H G' s' σ H' → SA K G' s' σ H' → XRel K cl x cls d G' → W cls d σ H'
  | .stuck => False
def tD (f : M R) : TE := fun σ H Q => ∃ G s, SA K G s σ H ∧ Out K cl W G s σ H (f s) fun r G' s' H' => ∀ v, RRel K H G' s' σ H' v r → Q v H'
def tT (f : M Bool) : TT := fun σ H Q => ∃ G s, SA K G s σ H ∧ Out K cl W G s σ H (f s) fun b _ _ H' => Q b H'
def RRels (H0 G : Hp) (s : DSt) (σ : L2.St) (H : Hp) : List V → List R → Prop := Paired fun v r => RRel K H0 G s σ H v r
def tA (f : M (List R)) : TA := fun σ H Q => ∃ G s, SA K G s σ H ∧ Out K cl W G s σ H (f s) fun rs G' s' H' => ∀ vs, RRels K H G' s' σ H' vs rs → Q vs H'
def FOut (G : Hp) (s : DSt) (σ : L2.St) (H : Hp) (fl : Flow) (D : Ends) : Prop := match fl with
  | .next s' => ∀ G' σ' H', Stp G s σ H G' s' σ' H' → SA K G' s' σ' H' → D.nx σ' H'
  | .brk s' => ∀ G' σ' H', Stp G s σ H G' s' σ' H' → SA K G' s' σ' H' → D.bk σ' H'
  | .cnt s' => ∀ G' σ' H', Stp G s σ H G' s' σ' H' → SA K G' s' σ' H' → D.ct σ' H'
  | .ret r s' => ∀ v G' σ' H', Stp G s σ H G' s' σ' H' → SA K G' s' σ' H' → RRel K H G' s' σ' H' v r → D.rt v H'
  | .err x s' => ∀ cls d G' σ' H', Stp G s σ H G' s' σ' H' → SA K G' s' σ' H' → XRel K cl x cls d G' → W cls d σ' H'
  | .stuck => False
def tS (f : DSt → Flow) : TS := fun D σ H => ∃ G s, SA K G s σ H ∧ FOut K cl W G s σ H (f s) D
end
section
variable {K : PySem.W.Frag} {cl : String → Addr} {W : WX} {G H : Hp} {s : DSt} {σ : L2.St}
theorem out_mono {α : Type} {r : Res α} {k k' : α → Hp → DSt → Hp → Prop} (h : Out K cl W G s σ H r k) (i : ∀ a G' s' H', Stp G s σ H G' s' σ H' → SA K G' s' σ H' → k a G' s' H' → k' a G' s' H') : Out K cl W G s σ H r k' := by
  cases r with
  | ok a s' => exact fun G' H' st sa => i a G' s' H' st sa (h G' H' st sa)
  | err x s' => exact h
  | stuck => exact h
theorem out_bind {α β : Type} {r : Res α} {g : α → M β} {k : β → Hp → DSt → Hp → Prop} (h : Out K cl W G s σ H (r.bind g) k) :
    Out K cl W G s σ H r fun a G1 s1 H1 => Out K cl W G1 s1 σ H1 (g a s1) fun b G2 s2 H2 => k b G2 s2 H2 := by
  cases r with
  | ok a s' =>
    intro G1 H1 st sa
    have h : Out K cl W G s σ H (g a s') k := h
    cases e : g a s' with
    | ok b s2 => rw [e] at h; exact fun G2 H2 st2 sa2 => h G2 H2 (st.trans st2) sa2
    | err x s2 => rw [e] at h; exact fun c d G2 H2 st2 sa2 xr => h c d G2 H2 (st.trans st2) sa2 xr
    | stuck => rw [e] at h; exact h
  | err x s' => exact h
  | stuck => exact h
theorem out_less {f : Res R} {H0 : Hp} {Q : VK} (dm : ∀ a, H0 a ≠ none → H a ≠ none) (h : Out K cl W G s σ H f fun r G' s' H' => ∀ v, RRel K H0 G' s' σ H' v r → Q v H') :
    Out K cl W G s σ H f fun r G' s' H' => ∀ v, RRel K H G' s' σ H' v r → Q v H' := out_mono h fun _ _ _ _ _ _ k v q => k v (q.less dm)
end
section
variable {X : Cx} {cl : String → Addr} {W : WX}
theorem pe_imp {e : Expr} {t t' : TE} (h : PE X e t) (i : ∀ σ H Q, t' σ H Q → t σ H Q) : PE X e t' := ⟨fun pins s σ H Q I q => h.run pins s σ H Q I (i σ H Q q)⟩
theorem pt_imp {e : Expr} {t t' : TT} (h : PT X e t) (i : ∀ σ H Q, t' σ H Q → t σ H Q) : PT X e t' := ⟨fun pins s σ H Q I q => h.run pins s σ H Q I (i σ H Q q)⟩
theorem pw_imp {e : Expr} {t t' : TT} (h : PW X e t) (i : ∀ σ H Q, t' σ H Q → t σ H Q) : PW X e t' := ⟨fun wh pins s σ H Q I q => h.run wh pins s σ H Q I (i σ H Q q)⟩
theorem pa_imp {es : List Expr} {t t' : TA} (h : PA X es t) (i : ∀ σ H Q, t' σ H Q → t σ H Q) : PA X es t' := ⟨fun pos pins s σ H Q I q => h.run pos pins s σ H Q I (i σ H Q q)⟩
theorem ps_imp {st : Stmt} {t t' : TS} (h : PS X st t) (i : ∀ D σ H, t' D σ H → t D σ H) : PS X st t' := ⟨fun pins s σ H D I q => h.run pins s σ H D I (i D σ H q)⟩
theorem pss_imp {st : List Stmt} {t t' : TS} (h : PSs X st t) (i : ∀ D σ H, t' D σ H → t D σ H) : PSs X st t' := ⟨fun pins s σ H D I q => h.run pins s σ H D I (i D σ H q)⟩
abbrev DE (X : Cx) (cl : String → Addr) (W : WX) (e : Expr) (f : M R) : Prop := PE X e (tD X.K cl W f)
abbrev DT (X : Cx) (cl : String → Addr) (W : WX) (e : Expr) (f : M Bool) : Prop := PT X e (tT X.K cl W f)
abbrev DW (X : Cx) (cl : String → Addr) (W : WX) (e : Expr) (f : M Bool) : Prop := PW X e (tT X.K cl W f)
abbrev DA (X : Cx) (cl : String → Addr) (W : WX) (es : List Expr) (f : M (List R)) : Prop := PA X es (tA X.K cl W f)
abbrev DS (X : Cx) (cl : String → Addr) (W : WX) (st : Stmt) (f : DSt → Flow) : Prop := PS X st (tS X.K cl W f)
abbrev DSs (X : Cx) (cl : String → Addr) (W : WX) (st : List Stmt) (f : DSt → Flow) : Prop := PSs X st (tS X.K cl W f)

/-! ### names, constants -/
def fVar (i : Nat) : M R := fun s => match s.d[i]? with
  | some (.val d) => .ok (.val d) s
  | some (.raw v) => .ok (.raw v) s
  | some (.ob o) => .ok (.ob o) s
  | some (.own _) => .ok (.slot i) s
  | _ => .stuck
theorem d_var (i : Nat) {x : Str} {pos : Pos} (hN : X.N[i]? = some x := by rfl) (hv : Vis X.env.scope x := by first | exact Or.inl rfl | exact Or.inr (Or.inl rfl) | exact Or.inr (Or.inr rfl)) (hd : (x == ("__debug__" : Str)) = false := by decide)
    (hcd : (x == ("__classdict__" : Str)) = false := by decide) : DE X cl W (.Name x pos) (fVar i) := by
  refine pe_imp (pe_var hN hv hd hcd) fun σ H Q ⟨G, s, S, h⟩ => ?_
  unfold fVar at h
  split at h
  · rename_i d q
    obtain ⟨v, e, hd⟩ := S.slot i _ q
    have e' : σ[i]? = some (some v) := by
      cases z : σ[i]? with
      | none => rw [z] at e; cases e
      | some o => rw [z] at e; simp at e; rw [e]
    exact ⟨v, e', h G H Stp.refl S v hd⟩
  · rename_i u q
    have e : σ[i]?.join = some u := S.slot i _ q
    have e' : σ[i]? = some (some u) := by
      cases z : σ[i]? with
      | none => rw [z] at e; cases e
      | some o => rw [z] at e; simp at e; rw [e]
    exact ⟨u, e', h G H Stp.refl S u rfl⟩
  · rename_i o q
    obtain ⟨v, e, hd⟩ := S.slot i _ q
    have e' : σ[i]? = some (some v) := by
      cases z : σ[i]? with
      | none => rw [z] at e; cases e
      | some o => rw [z] at e; simp at e; rw [e]
    exact ⟨v, e', h G H Stp.refl S v hd⟩
  · rename_i ds q
    obtain ⟨a, xs, e, ha, hd⟩ := S.slot i _ q
    have e' : σ[i]? = some (some (.ref a)) := by
      cases z : σ[i]? with
      | none => rw [z] at e; cases e
      | some o => rw [z] at e; simp at e; rw [e]
    exact ⟨_, e', h G H Stp.refl S _ e'⟩
  · exact h.elim
def fC (d : PyData) : M R := ret (.val d)
theorem d_c {e : Expr} {d : PyData} {v : V} (hd : ∀ G, Rp X.K G v d) (h : PE X e (tC v)) : DE X cl W e (fC d) :=
  pe_imp h fun σ H Q ⟨G, s, S, q⟩ => q G H Stp.refl S v (hd G)
theorem d_int {i j pos} : DE X cl W (.Constant (.int i) j pos) (fC (.int i)) := d_c (fun _ => .int i) pe_int
theorem d_bl {b j pos} : DE X cl W (.Constant (.bool b) j pos) (fC (.bool b)) := d_c (fun _ => .bl b) pe_bl
theorem d_non {j pos} : DE X cl W (.Constant .none j pos) (fC .none) := d_c (fun _ => .non) pe_non
theorem d_str {x j pos} : DE X cl W (.Constant (.str x) j pos) (fC (.str x)) := d_c (fun _ => .str x) pe_str
theorem d_globI {x : Str} {i : Int} {t : Tok} {pos : Pos} (hg : Gl X x) (hm : X.mg x = some (.int i t)) (hd : (x == ("__debug__" : Str)) = false := by decide) : DE X cl W (.Name x pos) (fC (.int i)) := d_c (fun _ => .int i) (pe_glob (v := .int i) hg hm ⟨t, rfl⟩ hd)
theorem d_globS {x : Str} {i : Str} {t : Tok} {pos : Pos} (hg : Gl X x) (hm : X.mg x = some (.str i t)) (hd : (x == ("__debug__" : Str)) = false := by decide) : DE X cl W (.Name x pos) (fC (.str i)) := d_c (fun _ => .str i) (pe_glob (v := .str i) hg hm ⟨t, rfl⟩ hd)
def fRaw (v : V) : M R := ret (.raw v)
/-! ### operators -/
def OpS (K : PySem.W.Frag) (rl : R2) (o : R → R → M R) : Prop := ∀ (cl : String → Addr) (W : WX) (G : Hp) (s : DSt) (σ : L2.St) (H H0 : Hp) (v1 v2 : V) (r1 r2 : R) (Q : VK), SA K G s σ H → RRel K H0 G s σ H v1 r1 → RRel K H0 G s σ H v2 r2 →
  (Out K cl W G s σ H (o r1 r2 s) fun r G' s' H' => ∀ v, RRel K H G' s' σ H' v r → Q v H') → rl v1 v2 H Q
def fOp (o : R → R → M R) (f g : M R) : M R := bnd f fun x => bnd g fun y => o x y
theorem d_op2 {e : Expr} {a b : Expr} {f g : M R} {rl : R2} {o : R → R → M R} (h : ∀ {ta tb : TE}, PE X a ta → PE X b tb → PE X e (tOp rl ta tb)) (ho : OpS X.K rl o) (ha : DE X cl W a f) (hb : DE X cl W b g) : DE X cl W e (fOp o f g) := by
  refine pe_imp (h ha hb) fun σ H Q ⟨G, s, S, q⟩ => ?_
  refine ⟨G, s, S, out_mono (out_bind q) fun x G1 s1 H1 st1 S1 q1 v1 r1 => ⟨G1, s1, S1, ?_⟩⟩
  refine out_mono (out_bind q1) fun y G2 s2 H2 st2 S2 q2 v2 r2 => ?_
  refine ho cl W G2 s2 σ H2 H v1 v2 x y Q S2 (r1.mono st2) (r2.less st1.dom) (out_less (st1.trans st2).dom q2)
theorem OpR.or' {f : Value → Value → Sem Value} {r r' : R2} (h : OpR X f r) (h' : OpR X f r') : OpR X f (fun x y H Q => r x y H Q ∨ r' x y H Q) := by
  intro pins s σ H x y v u Q I rx ry q
  rcases q with q | q
  · exact h pins s σ H x y v u Q I rx ry q
  · exact h' pins s σ H x y v u Q I rx ry q
theorem SA.ownL {K : PySem.W.Frag} {G H : Hp} {s : DSt} {σ : L2.St} {i : Nat} {a : Addr} (S : SA K G s σ H) (z : OwnAt s σ i a) : ∃ xs, H a = some (.lst xs) := by
  obtain ⟨⟨es, e⟩, e2⟩ := z
  obtain ⟨b, xs, e3, ha, _⟩ := S.slot i _ e
  rw [e2] at e3
  cases e3
  exact ⟨xs, ha⟩
theorem SA.ownH {K : PySem.W.Frag} {G H : Hp} {s : DSt} {σ : L2.St} {a : Addr} (S : SA K G s σ H) (z : Own s σ a) : (∃ xs, H a = some (.lst xs)) ∨ ∃ ps, H a = some (.tbl ps) := by
  rcases z with ⟨i, z⟩ | z
  · exact .inl (S.ownL z)
  · exact H_pown S.pw z
theorem SA.ownS {K : PySem.W.Frag} {G H : Hp} {s : DSt} {σ : L2.St} {a : Addr} (S : SA K G s σ H) (z : Own s σ a) : ∃ o, H a = some o ∧ ∀ φ, o ≠ .ext φ := by
  rcases S.ownH z with ⟨xs, e⟩ | ⟨ps, e⟩
  · exact ⟨_, e, fun _ => nofun⟩
  · exact ⟨_, e, fun _ => nofun⟩
theorem new_list {K : PySem.W.Frag} {G H H0 : Hp} {s : DSt} {σ : L2.St} {p : Addr} {vs : List V} {ds : List PyData} (S : SA K G s σ H) (hp : H p = none) (hd : RpAll K G vs ds) (dm : ∀ a, H0 a ≠ none → H a ≠ none) :
    Stp G s σ H G s σ (upd H p (.lst vs)) ∧ SA K G s σ (upd H p (.lst vs)) ∧ RRel K H0 G s σ (upd H p (.lst vs)) (.ref p) (.new ds) := by
  have ne : ∀ a o, H a = some o → a ≠ p := fun a o h => ne_of_none h hp
  have up : ∀ a o, H a = some o → upd H p (.lst vs) a = some o := fun a o h => by rw [upd_ne (ne a o h)]; exact h
  have gp : G p = none := Evl.fresh_back S.gh hp
  refine ⟨⟨Ex.refl G, fun a o h _ => ⟨up a o h, rfl⟩, fun a z => .inl z, fun a h => ?_, fun _ h => h⟩, ⟨S.len, S.gh.trans fun a o h => up a o h, fun i sl h => ?_, S.inj, S.ownG, ?_, S.pne⟩, ⟨p, vs, rfl, upd_same, hd, gp, ?_, ?_⟩⟩
  · obtain ⟨o, e⟩ := Option.ne_none_iff_exists'.mp h
    rw [up a o e]; simp
  · have q := S.slot i sl h
    cases sl with
    | no => trivial
    | val d => exact q
    | raw v => exact q
    | ob o => exact q
    | own es => obtain ⟨a, xs, e, ha, hh⟩ := q; exact ⟨a, xs, e, up a _ ha, hh⟩
  · exact pwok_to S.pw (fun a o h _ => up a o h) (fun a φ h => up a _ h) fun a z => G_pown S.pw z
  · exact Classical.byContradiction fun q => dm p q hp
  · intro z
    obtain ⟨xs, e, _⟩ := S.ownS z
    rw [hp] at e; cases e
theorem new_known {K : PySem.W.Frag} {G H : Hp} {s : DSt} {σ : L2.St} {p : Addr} (o : HO) (S : SA K G s σ H) (hp : H p = none) :
    Stp G s σ H (upd G p o) s σ (upd H p o) ∧ SA K (upd G p o) s σ (upd H p o) := by
  have up : ∀ a u, H a = some u → upd H p o a = some u := fun a u h => by rw [upd_ne (ne_of_none h hp)]; exact h
  have gp : G p = none := Evl.fresh_back S.gh hp
  have ug : Ex G (upd G p o) := Ex.new gp
  have nown : ∀ a, Own s σ a → a ≠ p := by
    rintro a z rfl
    obtain ⟨xs, e, _⟩ := S.ownS z
    rw [hp] at e; cases e
  refine ⟨⟨ug, fun a u h _ => ⟨up a u h, by rw [upd_ne (ne_of_none h hp)]⟩, fun a z => .inl z, fun a h => ?_, fun _ h => h⟩, ⟨S.len, fun a u h => ?_, fun i sl h => ?_, S.inj, fun i a z => ?_, ?_, S.pne⟩⟩
  · obtain ⟨u, e⟩ := Option.ne_none_iff_exists'.mp h
    rw [up a u e]; simp
  · by_cases e : a = p
    · subst e; rw [upd_same] at h ⊢; exact h
    · rw [upd_ne e] at h ⊢; exact S.gh a u h
  · have q := S.slot i sl h
    cases sl with
    | no => trivial
    | val d => obtain ⟨v, e, hd⟩ := q; exact ⟨v, e, dp_mono ug _ _ hd⟩
    | raw v => exact q
    | ob o => obtain ⟨v, e, hd⟩ := q; exact ⟨v, e, ob_mono ug hd⟩
    | own es => obtain ⟨a, xs, e, ha, hh⟩ := q; exact ⟨a, xs, e, up a _ ha, dps_mono ug _ _ hh⟩
  · rw [upd_ne (nown a (.inl ⟨i, z⟩))]; exact S.ownG i a z
  · exact pwok_to S.pw (fun a o h _ => up a o h) (fun a φ h => up a _ h) fun a z => by rw [upd_ne (nown a (.inr z))]; exact G_pown S.pw z
end
end DL

/-! DL3: operators on data -/
noncomputable section
namespace DL
open PySem L2 PyProof.Rows
open Evl (Ex)

def Dq (K : PySem.W.Frag) (G H : Hp) (v : V) (d : PyData) : Prop := match d with
  | .list ds => ∃ a xs, v = .ref a ∧ H a = some (.lst xs) ∧ RpAll K G xs ds
  | d => Rp K G v d
theorem Dq.of {K : PySem.W.Frag} {G H : Hp} {v : V} : ∀ {d : PyData}, Ex G H → Rp K G v d → Dq K G H v d
  | .list ds, e, h => by cases h with | lst hs ha => exact ⟨_, _, rfl, e _ _ hs, ha⟩
  | .none, _, h | .bool _, _, h | .int _, _, h | .str _, _, h | .tuple _, _, h | .dict _, _, h => h
theorem Dq.rp {K : PySem.W.Frag} {G H : Hp} {v : V} : ∀ {d : PyData}, Ex G H → Dq K G H v d → Rp K H v d
  | .list ds, e, h => by obtain ⟨a, xs, rfl, ha, hd⟩ := h; exact .lst ha (dps_mono e _ _ hd)
  | .none, e, h | .bool _, e, h | .int _, e, h | .str _, e, h | .tuple _, e, h | .dict _, e, h => dp_mono e _ _ h
theorem look_q {K : PySem.W.Frag} {H0 G H : Hp} {s : DSt} {σ : L2.St} {v : V} {r : R} {d : PyData} (S : SA K G s σ H) (h : RRel K H0 G s σ H v r) (e : look r s = some d) : Dq K G H v d := by
  cases r with
  | val d' => cases e; exact .of S.gh h
  | raw u => cases e
  | ob o => cases e
  | new ds =>
    cases e
    obtain ⟨a, xs, rfl, ha, hd, _⟩ := h
    exact ⟨a, xs, rfl, ha, hd⟩
  | slot i =>
    simp only [look] at e
    have h' : σ[i]? = some (some v) := h
    split at e
    · rename_i ds q
      cases e
      obtain ⟨a, xs, e1, ha, hd⟩ := S.slot i _ q
      rw [h'] at e1
      cases e1
      exact ⟨a, xs, rfl, ha, hd⟩
    · rename_i d' q
      cases e
      obtain ⟨u, e1, hd⟩ := S.slot i _ q
      rw [h'] at e1
      cases e1
      exact .of S.gh hd
    · cases e
theorem dq_int {K : PySem.W.Frag} {G H : Hp} {v : V} {i : Int} (h : Dq K G H v (.int i)) : v = .int i := by cases (show Rp K G v (.int i) from h); rfl
theorem dq_bl {K : PySem.W.Frag} {G H : Hp} {v : V} {i : Bool} (h : Dq K G H v (.bool i)) : v = .bl i := by cases (show Rp K G v (.bool i) from h); rfl
theorem dq_str {K : PySem.W.Frag} {G H : Hp} {v : V} {i : Str} (h : Dq K G H v (.str i)) : v = .str i := by cases (show Rp K G v (.str i) from h); rfl
theorem dq_lst {K : PySem.W.Frag} {G H : Hp} {v : V} {ds : List PyData} (h : Dq K G H v (.list ds)) : ∃ a xs, v = .ref a ∧ H a = some (.lst xs) ∧ RpAll K G xs ds := h
theorem dq_tup {K : PySem.W.Frag} {G H : Hp} {v : V} {ds : List PyData} (x : Ex G H) (h : Dq K G H v (.tuple ds)) : ∃ a xs, v = .ref a ∧ SqT K H a xs ∧ RpAll K G xs ds ∧ Rp K G v (.tuple ds) := by
  have h' : Rp K G v (.tuple ds) := h
  cases id h' with
  | tup hs ha => exact ⟨_, _, rfl, .of (x _ _ hs), ha, h'⟩
def Ans (K : PySem.W.Frag) (G H : Hp) (r : R) (Q : VK) : Prop := match r with
  | .val d => (∀ v, Rp K G v d → Q v H) ∧ ∀ ds p vs, d = .tuple ds → H p = none → RpAll K G vs ds → Q (.ref p) (upd H p (.tup vs))
  | .new ds => ∀ p vs, H p = none → RpAll K G vs ds → Q (.ref p) (upd H p (.lst vs))
  | .raw v => Q v H
  | .ob o => (∀ v, ObRel K G v o → Q v H) ∧ (∀ kvs p vs, o = .dict kvs → H p = none → KRp K G vs kvs → Q (.ref p) (upd H p (.dK vs))) ∧ ∀ S n p, o = .set S n → H p = none → Q (.ref p) (upd H p (.set S n))
  | .slot _ => False
theorem ans_of {K : PySem.W.Frag} {cl : String → Addr} {W : WX} {G H H0 : Hp} {s : DSt} {σ : L2.St} {r : R} {Q : VK} (S : SA K G s σ H) (dm : ∀ a, H0 a ≠ none → H a ≠ none) (hr : ∀ i, r ≠ .slot i)
    (h : Out K cl W G s σ H (.ok r s) fun r G' s' H' => ∀ v, RRel K H0 G' s' σ H' v r → Q v H') : Ans K G H r Q := by
  cases r with
  | val d =>
    refine ⟨fun v q => h G H Stp.refl S v q, fun ds p vs e hp hd => ?_⟩
    subst e
    obtain ⟨st, sa⟩ := new_known (.tup vs) S hp
    refine h _ _ st sa _ ?_
    exact .tup upd_same (dps_mono st.ex _ _ hd)
  | new ds =>
    intro p vs hp hd
    obtain ⟨st, sa, rr⟩ := new_list S hp hd dm
    exact h _ _ st sa _ rr
  | raw v => exact h G H Stp.refl S v rfl
  | ob o =>
    refine ⟨fun v q => h G H Stp.refl S v q, fun kvs p vs e hp hd => ?_, fun S' n p e hp => ?_⟩
    · subst e
      obtain ⟨st, sa⟩ := new_known (.dK vs) S hp
      exact h _ _ st sa _ ⟨p, vs, rfl, upd_same, krp_mono st.ex hd⟩
    · subst e
      obtain ⟨st, sa⟩ := new_known (.set S' n) S hp
      exact h _ _ st sa _ ⟨p, rfl, upd_same⟩
  | slot i => exact (hr i rfl).elim
def lift1 (o : PyData → Option R) : R → M R := fun x s => match look x s with
  | some d => match o d with
    | some (.slot _) => .stuck
    | some r => .ok r s
    | none => .stuck
  | none => .stuck
def lift2 (o : PyData → PyData → Option R) : R → R → M R := fun x y s => match look x s, look y s with
  | some d, some e => match o d e with
    | some (.slot _) => .stuck
    | some r => .ok r s
    | none => .stuck
  | _, _ => .stuck
def OpD (K : PySem.W.Frag) (rl : R2) (o : PyData → PyData → Option R) : Prop := ∀ (G H : Hp) (x y : V) (d e : PyData) (r : R) (Q : VK), Ex G H → Dq K G H x d → Dq K G H y e → o d e = some r → Ans K G H r Q → rl x y H Q
theorem ops_lift {K : PySem.W.Frag} {rl : R2} {o : PyData → PyData → Option R} (h : OpD K rl o) : OpS K rl (lift2 o) := by
  intro cl W G s σ H H0 v1 v2 r1 r2 Q S q1 q2 k
  unfold lift2 at k
  split at k
  · rename_i d e e1 e2
    split at k
    · exact k.elim
    · rename_i r ns ho
      exact h G H v1 v2 d e r Q S.gh (look_q S q1 e1) (look_q S q2 e2) ho (ans_of S (fun a z => z) (fun i z => ns i z) k)
    · exact k.elim
  · exact k.elim

/-! ### sums, products .. -/
def addO : PyData → PyData → Option R
  | .int i, .int j => some (.val (.int (i + j)))
  | .list a, .list b => if leS (a.length + b.length) then some (.new (a ++ b)) else none
  | .str a, .str b => if leS (a.length + b.length) then some (.val (.str (a ++ b))) else none
  | .tuple a, .tuple b => if leS (a.length + b.length) then some (.val (.tuple (a ++ b))) else none
  | _, _ => none
def rAddA (K : PySem.W.Frag) : R2 := fun x y H Q => rI0 (fun i j => .int (i + j)) x y H Q ∨ (rCat x y H Q ∨ ((∃ i j, x = .str i ∧ y = .str j ∧ i.length + j.length ≤ sizeLine ∧ Q (.str (i ++ j)) H) ∨ rCatA K x y H Q))
theorem opd_add {K : PySem.W.Frag} : OpD K (rAddA K) addO := by
  intro G H x y d e r Q ex hx hy ho k
  unfold addO at ho
  split at ho
  · cases ho
    obtain rfl := dq_int hx
    obtain rfl := dq_int hy
    exact .inl ⟨_, _, rfl, rfl, k.1 _ (.int _)⟩
  · split at ho
    · cases ho
      rename_i a b hl
      obtain ⟨p, xs, rfl, hp, hpx⟩ := dq_lst hx
      obtain ⟨q, ys, rfl, hq, hqx⟩ := dq_lst hy
      exact .inr (.inl ⟨p, q, xs, ys, rfl, rfl, hp, hq, by rw [dps_len hpx, dps_len hqx]; exact hl, fun l hl => k l _ hl (dps_app hpx hqx)⟩)
    · cases ho
  · split at ho
    · cases ho
      obtain rfl := dq_str hx
      obtain rfl := dq_str hy
      exact .inr (.inr (.inl ⟨_, _, rfl, rfl, by assumption, k.1 _ (.str _)⟩))
    · cases ho
  · split at ho
    · cases ho
      rename_i a b hl
      obtain ⟨p, xs, rfl, hp, hpx, h1⟩ := dq_tup ex hx
      obtain ⟨q, ys, rfl, hq, hqx, h2⟩ := dq_tup ex hy
      refine .inr (.inr (.inr ⟨p, q, xs, ys, rfl, rfl, hp, hq, by rw [dps_len hpx, dps_len hqx]; exact hl, fun z => ?_, fun _ z => ?_, fun _ _ l hl => k.2 _ l _ rfl hl (dps_app hpx hqx)⟩))
      · subst z
        cases hpx
        exact k.1 _ h2
      · subst z
        cases hqx
        simp only [List.append_nil] at k
        exact k.1 _ h1
    · cases ho
  · cases ho
def subO : PyData → PyData → Option R
  | .int i, .int j => some (.val (.int (i - j)))
  | _, _ => none
theorem opd_sub {K : PySem.W.Frag} : OpD K (rI0 fun i j => .int (i - j)) subO := by
  intro G H x y d e r Q ex hx hy ho k
  unfold subO at ho
  split at ho
  · cases ho
    obtain rfl := dq_int hx
    obtain rfl := dq_int hy
    exact ⟨_, _, rfl, rfl, k.1 _ (.int _)⟩
  · cases ho
def mulO : PyData → PyData → Option R
  | .int i, .int j => if lgM i j then some (.val (.int (i * j))) else none
  | .list a, .int k => if inW k ∧ leS (a.length * k.toNat) then some (.new (List.replicate k.toNat a).flatten) else none
  | _, _ => none
theorem dps_rep {K : PySem.W.Frag} {H : Hp} {ds : List PyData} {vs : List V} (h : RpAll K H vs ds) : ∀ n, RpAll K H (List.replicate n vs).flatten (List.replicate n ds).flatten
  | 0 => .nil
  | n + 1 => by
    rw [List.replicate_succ, List.replicate_succ, List.flatten_cons, List.flatten_cons]
    exact dps_app h (dps_rep h n)
def rMulA : R2 := fun x y H Q => rI CMulW (fun i j => .int (i * j)) x y H Q ∨ rRep x y H Q
theorem opd_mul {K : PySem.W.Frag} : OpD K rMulA mulO := by
  intro G H x y d e r Q ex hx hy ho k
  unfold mulO at ho
  split at ho
  · split at ho
    · cases ho
      obtain rfl := dq_int hx
      obtain rfl := dq_int hy
      exact .inl ⟨_, _, rfl, rfl, by assumption, k.1 _ (.int _)⟩
    · cases ho
  · split at ho
    · cases ho
      rename_i a n hl
      obtain ⟨p, xs, rfl, hp, hpx⟩ := dq_lst hx
      obtain rfl := dq_int hy
      exact .inr ⟨p, n, xs, rfl, rfl, hp, hl.1.1, hl.1.2, by rw [dps_len hpx]; exact hl.2, fun l hl => k l _ hl (dps_rep hpx _)⟩
    · cases ho
  · cases ho
def fdivO : PyData → PyData → Option R
  | .int i, .int j => if 0 < j ∧ lgD j then some (.val (.int (i / j))) else none
  | _, _ => none
theorem opd_fdiv {K : PySem.W.Frag} : OpD K (rI CDivW fun i j => .int (i / j)) fdivO := by
  intro G H x y d e r Q ex hx hy ho k
  unfold fdivO at ho
  split at ho
  · split at ho
    · cases ho
      obtain rfl := dq_int hx
      obtain rfl := dq_int hy
      exact ⟨_, _, rfl, rfl, by assumption, k.1 _ (.int _)⟩
    · cases ho
  · cases ho
def modO : PyData → PyData → Option R
  | .int i, .int j => if 0 < j then some (.val (.int (i % j))) else none
  | _, _ => none
theorem opd_mod {K : PySem.W.Frag} : OpD K (rI (fun _ j => 0 < j) fun i j => .int (i % j)) modO := by
  intro G H x y d e r Q ex hx hy ho k
  unfold modO at ho
  split at ho
  · split at ho
    · cases ho
      obtain rfl := dq_int hx
      obtain rfl := dq_int hy
      exact ⟨_, _, rfl, rfl, by assumption, k.1 _ (.int _)⟩
    · cases ho
  · cases ho
def powO : PyData → PyData → Option R
  | .int i, .int j => if 0 ≤ j ∧ leP j ∧ lgP i then some (.val (.int (i ^ j.toNat))) else none
  | _, _ => none
def CPowW (i j : Int) : Prop := 0 ≤ j ∧ j ≤ 30000 ∧ i.natAbs.log2 < 4000
theorem bits_log (i : Int) : Builtin.Int.intBits i ≤ i.natAbs.log2 + 1 := by
  unfold Builtin.Int.intBits
  split <;> omega
theorem op_powW {X : Cx} : OpR X (binaryOp .Pow) (rI CPowW fun i j => .int (i ^ j.toNat)) := by
  intro pins s σ H x y v u Q I r1 r2 h
  obtain ⟨i, j, rfl, rfl, hc, q⟩ := h
  obtain ⟨t, rfl⟩ := r1
  obtain ⟨t', rfl⟩ := r2
  refine pow_int hc.1 ?_ ⟨.int _, H, I.tok _, ⟨_, rfl⟩, q⟩
  have h1 := bits_log i
  have h2 : (Builtin.Int.intBits i : Int) ≤ 4000 := by have := hc.2.2; omega
  have h3 : (Builtin.Int.intBits i : Int) * j ≤ 4000 * 30000 := Int.mul_le_mul h2 hc.2.1 hc.1 (by decide)
  have : (4000 * 30000 : Int) ≤ 2 ^ 27 := by decide
  omega
theorem opd_pow {K : PySem.W.Frag} : OpD K (rI CPowW fun i j => .int (i ^ j.toNat)) powO := by
  intro G H x y d e r Q ex hx hy ho k
  unfold powO at ho
  split at ho
  · split at ho
    · cases ho
      obtain rfl := dq_int hx
      obtain rfl := dq_int hy
      exact ⟨_, _, rfl, rfl, by assumption, k.1 _ (.int _)⟩
    · cases ho
  · cases ho

/-! ### comparisons -/
def ltO : PyData → PyData → Option R
  | .int i, .int j => some (.val (.bool (decide (i < j))))
  | _, _ => none
def leO : PyData → PyData → Option R
  | .int i, .int j => some (.val (.bool (decide (i ≤ j))))
  | _, _ => none
def gtO : PyData → PyData → Option R
  | .int i, .int j => some (.val (.bool (decide (j < i))))
  | _, _ => none
def geO : PyData → PyData → Option R
  | .int i, .int j => some (.val (.bool (decide (j ≤ i))))
  | _, _ => none
theorem opd_cmpI {K : PySem.W.Frag} {p : Int → Int → Bool} {o : PyData → PyData → Option R} (h1 : ∀ i j, o (.int i) (.int j) = some (.val (.bool (p i j)))) (h2 : ∀ d e r, o d e = some r → ∃ i j, d = .int i ∧ e = .int j) :
    OpD K (rI0 fun i j => .bl (p i j)) o := by
  intro G H x y d e r Q ex hx hy ho k
  obtain ⟨i, j, rfl, rfl⟩ := h2 d e r ho
  rw [h1] at ho
  cases ho
  obtain rfl := dq_int hx
  obtain rfl := dq_int hy
  exact ⟨_, _, rfl, rfl, k.1 _ (.bl _)⟩
theorem opd_lt {K : PySem.W.Frag} : OpD K (rI0 fun i j => .bl (decide (i < j))) ltO := opd_cmpI (fun _ _ => rfl) fun d e r h => by unfold ltO at h; split at h <;> simp_all
theorem opd_le {K : PySem.W.Frag} : OpD K (rI0 fun i j => .bl (decide (i ≤ j))) leO := opd_cmpI (fun _ _ => rfl) fun d e r h => by unfold leO at h; split at h <;> simp_all
theorem opd_gt {K : PySem.W.Frag} : OpD K (rI0 fun i j => .bl (decide (j < i))) gtO := opd_cmpI (fun _ _ => rfl) fun d e r h => by unfold gtO at h; split at h <;> simp_all
theorem opd_ge {K : PySem.W.Frag} : OpD K (rI0 fun i j => .bl (decide (j ≤ i))) geO := opd_cmpI (fun _ _ => rfl) fun d e r h => by unfold geO at h; split at h <;> simp_all
def rEqP (K : PySem.W.Frag) (neg : Bool) : R2 := fun x y H Q => ∃ d e, Dp K H x d ∧ Dp K H y e ∧ d.plain = true ∧ e.plain = true ∧ min d.depth e.depth ≤ 60 ∧ Q (.bl (if neg then !PyData.eqv d e else PyData.eqv d e)) H
section
variable {X : Cx}
theorem op_eqP (hu : X.A.units + 64 < cLine) : OpR X (compareOp .Eq) (rEqP X.K false) := by
  intro pins s σ H x y v u Q I rx ry h
  obtain ⟨d, e, hd, he, sd, se, dm, q⟩ := h
  obtain ⟨as, r1⟩ := Dp.reads I d x v hd rx
  obtain ⟨bs, r2⟩ := Dp.reads I e y u he ry
  exact SeqAt.eq_plain r1 r2 sd se (by omega) ⟨.bl _, H, I, rfl, q⟩
theorem op_neP (hu : X.A.units + 64 < cLine) : OpR X (compareOp .NotEq) (rEqP X.K true) := by
  intro pins s σ H x y v u Q I rx ry h
  obtain ⟨d, e, hd, he, sd, se, dm, q⟩ := h
  obtain ⟨as, r1⟩ := Dp.reads I d x v hd rx
  obtain ⟨bs, r2⟩ := Dp.reads I e y u he ry
  exact SeqAt.ne_plain r1 r2 sd se (by omega) ⟨.bl _, H, I, rfl, q⟩
end
def eqO (d e : PyData) : Option R := if min d.depth e.depth ≤ 60 then some (.val (.bool (PyData.eqv d e))) else none
def neO (d e : PyData) : Option R := if min d.depth e.depth ≤ 60 then some (.val (.bool (!PyData.eqv d e))) else none
theorem opd_eq {K : PySem.W.Frag} : OpD K (rEqP K false) eqO := by
  intro G H x y d e r Q ex hx hy ho k
  unfold eqO at ho
  split at ho
  · cases ho
    have h1 := hx.rp ex
    have h2 := hy.rp ex
    exact ⟨d, e, rp_dp _ _ h1, rp_dp _ _ h2, rp_plain _ _ h1, rp_plain _ _ h2, by assumption, k.1 _ (.bl _)⟩
  · cases ho
theorem opd_ne {K : PySem.W.Frag} : OpD K (rEqP K true) neO := by
  intro G H x y d e r Q ex hx hy ho k
  unfold neO at ho
  split at ho
  · cases ho
    have h1 := hx.rp ex
    have h2 := hy.rp ex
    exact ⟨d, e, rp_dp _ _ h1, rp_dp _ _ h2, rp_plain _ _ h1, rp_plain _ _ h2, by assumption, k.1 _ (.bl _)⟩
  · cases ho
def rInP (K : PySem.W.Frag) (neg : Bool) : R2 := fun x y H Q => ∃ d ds, Dp K H x d ∧ (Dp K H y (.list ds) ∨ Dp K H y (.tuple ds)) ∧ d.plain = true ∧ PyData.plainAll ds = true ∧ min (PyData.depthAll ds) d.depth ≤ 60 ∧
  Q (.bl (if neg then !ds.any fun z => PyData.eqv z d else ds.any fun z => PyData.eqv z d)) H
section
variable {X : Cx}
theorem op_inP (hu : X.A.units + 64 < cLine) : OpR X (compareOp .In) (rInP X.K false) := by
  intro pins s σ H x y v u Q I rx ry h
  obtain ⟨d, ds, hd, he, sd, se, dm, q⟩ := h
  obtain ⟨as, r1⟩ := Dp.reads I d x v hd rx
  rcases he with he | he
  · obtain ⟨bs, r2⟩ := Dp.reads I _ y u he ry
    exact SeqAt.in_list_data r2 r1 se sd (by omega) ⟨.bl _, H, I, rfl, q⟩
  · obtain ⟨bs, r2⟩ := Dp.reads I _ y u he ry
    exact SeqAt.in_tuple_data r2 r1 se sd (by omega) ⟨.bl _, H, I, rfl, q⟩
end
def items : PyData → Option (List PyData)
  | .list ds => some ds
  | .tuple ds => some ds
  | _ => none
def inO (d e : PyData) : Option R := match items e with
  | some ds => if min (PyData.depthAll ds) d.depth ≤ 60 then some (.val (.bool (ds.any fun z => PyData.eqv z d))) else none
  | none => none
def notInO (d e : PyData) : Option R := match items e with
  | some ds => if min (PyData.depthAll ds) d.depth ≤ 60 then some (.val (.bool (!ds.any fun z => PyData.eqv z d))) else none
  | none => none
theorem items_dp {K : PySem.W.Frag} {H : Hp} {v : V} {e : PyData} {ds : List PyData} (h : Rp K H v e) (q : items e = some ds) : (Dp K H v (.list ds) ∨ Dp K H v (.tuple ds)) ∧ PyData.plainAll ds = true := by
  unfold items at q
  split at q
  · cases q
    refine ⟨.inl (rp_dp _ _ h), ?_⟩
    have := rp_plain _ _ h
    simpa [PyData.plain] using this
  · cases q
    refine ⟨.inr (rp_dp _ _ h), ?_⟩
    have := rp_plain _ _ h
    simpa [PyData.plain] using this
  · cases q
theorem opd_in {K : PySem.W.Frag} : OpD K (rInP K false) inO := by
  intro G H x y d e r Q ex hx hy ho k
  unfold inO at ho
  split at ho
  · rename_i ds hi
    split at ho
    · cases ho
      have h1 := hx.rp ex
      obtain ⟨h2, h3⟩ := items_dp (hy.rp ex) hi
      exact ⟨d, ds, rp_dp _ _ h1, h2, rp_plain _ _ h1, h3, by assumption, k.1 _ (.bl _)⟩
    · cases ho
  · cases ho
/-! ### places -/
def ixO : PyData → PyData → Option R
  | .list ds, .int i => (atI ds i).map .val
  | .tuple ds, .int i => (atI ds i).map .val
  | .str z, .int i => if leS (z.length) then (atI z.cps.toList i).map fun c => .val (.str ⟨#[c]⟩) else none
  | _, _ => none
theorem atI_rp {K : PySem.W.Frag} {G : Hp} {xs : List V} {ds : List PyData} {i : Int} {d : PyData} (h : RpAll K G xs ds) (e : atI ds i = some d) : ∃ v, atI xs i = some v ∧ Rp K G v d := by
  unfold atI at e ⊢
  rw [dps_len h]
  cases q : ixN ds.length i with
  | none => rw [q] at e; cases e
  | some j =>
    rw [q] at e
    have e : ds[j]? = some d := e
    have hj : j < xs.length := by rw [dps_len h]; exact (List.getElem?_eq_some_iff.mp e).1
    obtain ⟨d', e', r⟩ := dps_get h (List.getElem?_eq_getElem hj)
    rw [e] at e'
    cases e'
    exact ⟨xs[j], by simp [hj], r⟩
theorem opd_ix {K : PySem.W.Frag} : OpD K (rIx K) ixO := by
  intro G H x y d e r Q ex hx hy ho k
  unfold ixO at ho
  split at ho
  · rename_i ds i
    cases q : atI ds i with
    | none => rw [q] at ho; cases ho
    | some z =>
      rw [q] at ho
      cases ho
      obtain rfl := dq_int hy
      obtain ⟨p, xs, rfl, hp, hpx⟩ := dq_lst hx
      obtain ⟨v, e1, r1⟩ := atI_rp hpx q
      exact .inl ⟨p, xs, i, v, rfl, rfl, .of hp, e1, k.1 _ r1⟩
  · rename_i ds i
    cases q : atI ds i with
    | none => rw [q] at ho; cases ho
    | some z =>
      rw [q] at ho
      cases ho
      obtain rfl := dq_int hy
      obtain ⟨p, xs, rfl, hp, hpx, _⟩ := dq_tup ex hx
      obtain ⟨v, e1, r1⟩ := atI_rp hpx q
      exact .inr (.inl ⟨p, xs, i, v, rfl, rfl, hp, e1, k.1 _ r1⟩)
  · rename_i z i
    split at ho
    · cases q : atI z.cps.toList i with
      | none => rw [q] at ho; cases ho
      | some c =>
        rw [q] at ho
        cases ho
        obtain rfl := dq_int hy
        obtain rfl := dq_str hx
        exact .inr (.inr ⟨z, i, c, rfl, rfl, by assumption, q, k.1 _ (.str _)⟩)
    · cases ho
  · cases ho
section
variable {X : Cx} {cl : String → Addr} {W : WX} {a b : Expr} {f g : M R} {pos : Pos}
theorem d_add (ha : DE X cl W a f) (hb : DE X cl W b g) : DE X cl W (.BinOp a .Add b pos) (fOp (lift2 addO) f g) := d_op2 (pe_op (OpR.or' op_add (OpR.or' op_cat (OpR.or' op_add_str op_catA)))) (ops_lift opd_add) ha hb
theorem d_sub (ha : DE X cl W a f) (hb : DE X cl W b g) : DE X cl W (.BinOp a .Sub b pos) (fOp (lift2 subO) f g) := d_op2 (pe_op op_sub) (ops_lift opd_sub) ha hb
theorem d_mul (ha : DE X cl W a f) (hb : DE X cl W b g) : DE X cl W (.BinOp a .Mult b pos) (fOp (lift2 mulO) f g) := d_op2 (pe_op (OpR.or' op_mulW op_rep)) (ops_lift opd_mul) ha hb
theorem d_fdiv (ha : DE X cl W a f) (hb : DE X cl W b g) : DE X cl W (.BinOp a .FloorDiv b pos) (fOp (lift2 fdivO) f g) := d_op2 (pe_op op_fdivW) (ops_lift opd_fdiv) ha hb
theorem d_mod (ha : DE X cl W a f) (hb : DE X cl W b g) : DE X cl W (.BinOp a .Mod b pos) (fOp (lift2 modO) f g) := d_op2 (pe_op op_mod) (ops_lift opd_mod) ha hb
theorem d_pow (ha : DE X cl W a f) (hb : DE X cl W b g) : DE X cl W (.BinOp a .Pow b pos) (fOp (lift2 powO) f g) := d_op2 (pe_op op_powW) (ops_lift opd_pow) ha hb
theorem d_le (ha : DE X cl W a f) (hb : DE X cl W b g) : DE X cl W (.Compare a [.LtE] [b] pos) (fOp (lift2 leO) f g) := d_op2 (fun h1 h2 => pe_cmpR op_le h1 h2 (nomark _)) (ops_lift opd_le) ha hb
theorem d_gt (ha : DE X cl W a f) (hb : DE X cl W b g) : DE X cl W (.Compare a [.Gt] [b] pos) (fOp (lift2 gtO) f g) := d_op2 (fun h1 h2 => pe_cmpR op_gt h1 h2 (nomark _)) (ops_lift opd_gt) ha hb
theorem d_ge (ha : DE X cl W a f) (hb : DE X cl W b g) : DE X cl W (.Compare a [.GtE] [b] pos) (fOp (lift2 geO) f g) := d_op2 (fun h1 h2 => pe_cmpR op_ge h1 h2 (nomark _)) (ops_lift opd_ge) ha hb
theorem d_eq (hu : X.A.units + 64 < cLine) (ha : DE X cl W a f) (hb : DE X cl W b g) : DE X cl W (.Compare a [.Eq] [b] pos) (fOp (lift2 eqO) f g) := d_op2 (fun h1 h2 => pe_cmpR (op_eqP hu) h1 h2 (nomark _)) (ops_lift opd_eq) ha hb
theorem d_in (hu : X.A.units + 64 < cLine) (hm : behindInMarks .In b = false) (ha : DE X cl W a f) (hb : DE X cl W b g) : DE X cl W (.Compare a [.In] [b] pos) (fOp (lift2 inO) f g) := d_op2 (fun h1 h2 => pe_cmpR (op_inP hu) h1 h2 hm) (ops_lift opd_in) ha hb
theorem d_ix (ha : DE X cl W a f) (hb : DE X cl W b g) (hs : PlainIx b) : DE X cl W (.Subscript a b pos) (fOp (lift2 ixO) f g) := d_op2 (fun h1 h2 => pe_ix ix_seq h1 h2 hs) (ops_lift opd_ix) ha hb
end
end DL

/-! DL4: tests, argument lists, displays, statements -/
noncomputable section
namespace DL
open PySem L2 PyProof.Rows
open Evl (Ex)

/-! ### tests -/
def fB (f : M R) : M Bool := bnd f fun r s => match look r s with
  | some (.bool b) => .ok b s
  | _ => .stuck
section
variable {X : Cx} {cl : String → Addr} {W : WX}
theorem test_of {K : PySem.W.Frag} {f : M R} {σ : L2.St} {H : Hp} {Q : Bool → Hp → Prop} (h : tT K cl W (fB f) σ H Q) : tD K cl W f σ H fun x H1 => ∃ k, x = .bl k ∧ Q k H1 := by
  obtain ⟨G, s, S, q⟩ := h
  refine ⟨G, s, S, out_mono (out_bind q) fun r G1 s1 H1 st S1 q1 v rr => ?_⟩
  split at q1
  · rename_i b e
    obtain rfl := dq_bl (look_q S1 rr e)
    exact ⟨b, rfl, q1 G1 H1 Stp.refl S1⟩
  · exact q1.elim
theorem d_tval {e : Expr} {f : M R} (h : DE X cl W e f) (he : ∀ whole, isTrue e X.env whole = (do let v ← whole; standAt e.pos; holding [v] (truthy v)) := by intro _; rfl) : DT X cl W e (fB f) :=
  pt_imp (pt_val h he) fun σ H Q q => test_of q
theorem d_opT {e a b : Expr} {f g : M R} {rl : R2} {o : R → R → M R} (h : ∀ {ta tb : TE}, PE X a ta → PE X b tb → PT X e (tTest (tOp rl ta tb))) (ho : OpS X.K rl o) (ha : DE X cl W a f) (hb : DE X cl W b g) : DT X cl W e (fB (fOp o f g)) := by
  refine pt_imp (h ha hb) fun σ H Q q => ?_
  obtain ⟨G, s, S, q⟩ := test_of q
  refine ⟨G, s, S, out_mono (out_bind q) fun x G1 s1 H1 st1 S1 q1 v1 r1 => ⟨G1, s1, S1, ?_⟩⟩
  refine out_mono (out_bind q1) fun y G2 s2 H2 st2 S2 q2 v2 r2 => ?_
  exact ho cl W G2 s2 σ H2 H v1 v2 x y _ S2 (r1.mono st2) (r2.less st1.dom) (out_less (st1.trans st2).dom q2)
def fAnd (f g : M Bool) : M Bool := bnd f fun b => if b then g else ret false
def fOr (f g : M Bool) : M Bool := bnd f fun b => if b then ret true else g
def fNot (f : M Bool) : M Bool := bnd f fun b => ret (!b)
theorem tand_of {K : PySem.W.Frag} {f g : M Bool} {σ : L2.St} {H : Hp} {Q : Bool → Hp → Prop} (h : tT K cl W (fAnd f g) σ H Q) : tAnd (tT K cl W f) (tT K cl W g) σ H Q := by
  obtain ⟨G, s, S, q⟩ := h
  refine ⟨G, s, S, out_mono (out_bind q) fun b G1 s1 H1 st S1 q1 => ?_⟩
  cases b with
  | true => exact ⟨G1, s1, S1, q1⟩
  | false => exact q1 G1 H1 Stp.refl S1
theorem tor_of {K : PySem.W.Frag} {f g : M Bool} {σ : L2.St} {H : Hp} {Q : Bool → Hp → Prop} (h : tT K cl W (fOr f g) σ H Q) : tOr (tT K cl W f) (tT K cl W g) σ H Q := by
  obtain ⟨G, s, S, q⟩ := h
  refine ⟨G, s, S, out_mono (out_bind q) fun b G1 s1 H1 st S1 q1 => ?_⟩
  cases b with
  | true => exact q1 G1 H1 Stp.refl S1
  | false => exact ⟨G1, s1, S1, q1⟩
theorem d_tnot {a : Expr} {f : M Bool} {pos : Pos} (ha : DT X cl W a f) : DT X cl W (.UnaryOp .Not a pos) (fNot f) := pt_imp (pt_not ha) fun σ H Q ⟨G, s, S, q⟩ =>
  ⟨G, s, S, out_mono (out_bind q) fun b G1 s1 H1 st S1 q1 => q1 G1 H1 Stp.refl S1⟩
theorem w_and1 {a : Expr} {f : M Bool} {pos : Pos} (ha : DT X cl W a f) : DW X cl W (.BoolOp .And [a] pos) f := pw_and1 ha
theorem w_or1 {a : Expr} {f : M Bool} {pos : Pos} (ha : DT X cl W a f) : DW X cl W (.BoolOp .Or [a] pos) f := pw_or1 ha
theorem w_and {a b : Expr} {rest : List Expr} {f g : M Bool} {pos : Pos} (ha : DT X cl W a f) (hb : DW X cl W (.BoolOp .And (b :: rest) pos) g) : DW X cl W (.BoolOp .And (a :: b :: rest) pos) (fAnd f g) := pw_imp (pw_and ha hb) fun σ H Q q => tand_of q
theorem w_or {a b : Expr} {rest : List Expr} {f g : M Bool} {pos : Pos} (ha : DT X cl W a f) (hb : DW X cl W (.BoolOp .Or (b :: rest) pos) g) : DW X cl W (.BoolOp .Or (a :: b :: rest) pos) (fOr f g) := pw_imp (pw_or ha hb) fun σ H Q q => tor_of q
theorem d_tw {e : Expr} {f : M Bool} (h : DW X cl W e f) : DT X cl W e f := PW.pt h
def fV (f : M Bool) : M R := bnd f fun b => ret (.val (.bool b))
def fAndV (f g : M R) : M R := bnd (fB f) fun b => if b then g else ret (.val (.bool false))
def fOrV (f g : M R) : M R := bnd (fB f) fun b => if b then ret (.val (.bool true)) else g
theorem v_one {op} {a : Expr} {f : M R} {pos : Pos} (h : DE X cl W a f) : DE X cl W (.BoolOp op [a] pos) f := pe_one h
theorem v_and {a b : Expr} {rest : List Expr} {f g : M R} {pos : Pos} (ha : DE X cl W a f) (hb : DE X cl W (.BoolOp .And (b :: rest) pos) g) : DE X cl W (.BoolOp .And (a :: b :: rest) pos) (fAndV f g) := by
  refine pe_imp (pe_and ha hb) fun σ H Q q => ?_
  obtain ⟨G, s, S, q⟩ := q
  have q2 : tT X.K cl W (fB f) σ H fun b H1 => if b = true then tD X.K cl W g σ H1 Q else Q (.bl false) H1 := by
    refine ⟨G, s, S, out_mono (out_bind q) fun b G1 s1 H1 st S1 k => ?_⟩
    cases b with
    | true => exact ⟨G1, s1, S1, out_less st.dom k⟩
    | false => exact k G1 H1 Stp.refl S1 _ (.bl false)
  exact test_of q2
theorem v_not {a : Expr} {f : M R} {pos : Pos} (ha : DE X cl W a f) : DE X cl W (.UnaryOp .Not a pos) (fV (fNot (fB f))) := by
  refine pe_imp (pe_not ha) fun σ H Q q => ?_
  obtain ⟨G, s, S, q⟩ := q
  have q2 : tT X.K cl W (fB f) σ H fun b H1 => Q (.bl (!b)) H1 := by
    refine ⟨G, s, S, out_mono (out_bind (out_bind q)) fun b G1 s1 H1 st S1 k => ?_⟩
    exact k G1 H1 Stp.refl S1 G1 H1 Stp.refl S1 _ (.bl _)
  exact test_of q2
def fIf (c : M Bool) (f g : M R) : M R := bnd c fun b => if b then f else g
/-! ### what is handed on: known from then on -/
def AR (K : PySem.W.Frag) (G : Hp) (v : V) : R → Prop
  | .val d => Rp K G v d
  | .raw u => v = u
  | .ob o => ObRel K G v o
  | _ => False
def esc (r : R) (s : DSt) : Option (R × DSt) := match r with
  | .val d => some (.val d, s)
  | .raw v => some (.raw v, s)
  | .ob o => some (.ob o, s)
  | .new ds => some (.val (.list ds), s)
  | .slot i => match s.d[i]? with
    | some (.own ds) => some (.val (.list ds), { s with d := s.d.set i (.val (.list ds)) })
    | some (.val d) => some (.val d, s)
    | _ => none
theorem know {K : PySem.W.Frag} {G H : Hp} {s : DSt} {σ : L2.St} {a : Addr} {xs : List V} {ds : List PyData} (S : SA K G s σ H) (ha : H a = some (.lst xs)) (hd : RpAll K G xs ds) (hg : G a = none) (hn : ¬ Own s σ a) :
    Ex G (upd G a (.lst xs)) ∧ SA K (upd G a (.lst xs)) s σ H ∧ Rp K (upd G a (.lst xs)) (.ref a) (.list ds) := by
  have ug : Ex G (upd G a (.lst xs)) := Ex.new hg
  refine ⟨ug, ⟨S.len, fun b u h => ?_, fun i sl h => ?_, S.inj, fun i b z => ?_, ?_, S.pne⟩, .lst upd_same (dps_mono ug _ _ hd)⟩
  · by_cases e : b = a
    · subst e; rw [upd_same] at h; rw [ha]; exact h
    · rw [upd_ne e] at h; exact S.gh b u h
  · have q := S.slot i sl h
    cases sl with
    | no => trivial
    | val d => obtain ⟨v, e, hd⟩ := q; exact ⟨v, e, dp_mono ug _ _ hd⟩
    | raw v => exact q
    | ob o => obtain ⟨v, e, hd⟩ := q; exact ⟨v, e, ob_mono ug hd⟩
    | own es => obtain ⟨b, ys, e, hb, hh⟩ := q; exact ⟨b, ys, e, hb, dps_mono ug _ _ hh⟩
  · rw [upd_ne fun e => hn (by subst e; exact .inl ⟨i, z⟩)]; exact S.ownG i b z
  · exact pwok_to S.pw (fun a o h _ => h) (fun a φ h => h) fun b z => by rw [upd_ne fun q => hn (by subst q; exact .inr z)]; exact G_pown S.pw z
theorem own_set {s : DSt} {σ : L2.St} {i j : Nat} {d : PyData} {a : Addr} : OwnAt { s with d := s.d.set i (.val d) } σ j a ↔ j ≠ i ∧ OwnAt s σ j a := by
  constructor
  · rintro ⟨⟨ds, e⟩, h⟩
    by_cases q : j = i
    · subst q
      simp only [List.getElem?_set] at e
      split at e
      · split at e <;> cases e
      · rename_i z; simp at z
    · simp only [List.getElem?_set_ne (Ne.symm q)] at e
      exact ⟨q, ⟨ds, e⟩, h⟩
  · rintro ⟨q, ⟨ds, e⟩, h⟩
    refine ⟨⟨ds, ?_⟩, h⟩
    simp only [List.getElem?_set_ne (Ne.symm q)]
    exact e
theorem slot_known {K : PySem.W.Frag} {G H : Hp} {s : DSt} {σ : L2.St} {i : Nat} {ds : List PyData} (S : SA K G s σ H) (h : s.d[i]? = some (.own ds)) :
    ∃ a xs, σ[i]? = some (some (.ref a)) ∧ H a = some (.lst xs) ∧ Stp G s σ H (upd G a (.lst xs)) { s with d := s.d.set i (.val (.list ds)) } σ H ∧ SA K (upd G a (.lst xs)) { s with d := s.d.set i (.val (.list ds)) } σ H ∧ Rp K (upd G a (.lst xs)) (.ref a) (.list ds) := by
  obtain ⟨a, xs, e, ha, hd⟩ := S.slot i _ h
  have e' : σ[i]? = some (some (.ref a)) := by
    cases z : σ[i]? with
    | none => rw [z] at e; cases e
    | some o => rw [z] at e; simp at e; rw [e]
  have hown : OwnAt s σ i a := ⟨⟨ds, h⟩, e'⟩
  have hg := S.ownG i a hown
  have il : i < s.d.length := (List.getElem?_eq_some_iff.mp h).1
  have ug : Ex G (upd G a (.lst xs)) := Ex.new hg
  have rp : Rp K (upd G a (.lst xs)) (.ref a) (.list ds) := .lst upd_same (dps_mono ug _ _ hd)
  refine ⟨a, xs, e', ha, ⟨ug, fun b u hb nb => ⟨hb, upd_ne fun z => nb (by subst z; exact .inl ⟨i, hown⟩)⟩, fun b z => ?_, fun b z => z, fun b z => z⟩, ⟨by simp [S.len], fun b u hb => ?_, fun j sl hj => ?_, fun j k b h1 h2 => ?_, fun j b z => ?_, ?_, fun j b z => ?_⟩, rp⟩
  · refine .inl ?_
    rcases z with ⟨j, z⟩ | z
    · exact .inl ⟨j, (own_set.mp z).2⟩
    · exact .inr z
  · by_cases q : b = a
    · subst q; rw [upd_same] at hb; rw [ha]; exact hb
    · rw [upd_ne q] at hb; exact S.gh b u hb
  · by_cases q : j = i
    · subst q
      simp only [List.getElem?_set_self il] at hj
      cases hj
      exact ⟨.ref a, by rw [e'] <;> rfl, rp⟩
    · simp only [List.getElem?_set_ne (Ne.symm q)] at hj
      have z := S.slot j sl hj
      cases sl with
      | no => trivial
      | val d => obtain ⟨v, e, hd⟩ := z; exact ⟨v, e, dp_mono ug _ _ hd⟩
      | raw v => exact z
      | ob o => obtain ⟨v, e, hd⟩ := z; exact ⟨v, e, ob_mono ug hd⟩
      | own es => obtain ⟨b, ys, e, hb, hh⟩ := z; exact ⟨b, ys, e, hb, dps_mono ug _ _ hh⟩
  · exact S.inj j k b (own_set.mp h1).2 (own_set.mp h2).2
  · obtain ⟨q, z⟩ := own_set.mp z
    rw [upd_ne fun e => q (by subst e; exact S.inj j i b z hown)]
    exact S.ownG j b z
  · exact pwok_to S.pw (fun a o h _ => h) (fun a φ h => h) fun b z => by rw [upd_ne fun q => S.pne i a hown (by subst q; exact z)]; exact G_pown S.pw z
  · exact S.pne j b (own_set.mp z).2
theorem esc_ok {K : PySem.W.Frag} {G0 H0 G H : Hp} {s0 s : DSt} {σ0 σ : L2.St} {v : V} {r r' : R} {s' : DSt} (S : SA K G s σ H) (st : Stp G0 s0 σ0 H0 G s σ H) (h : RRel K H0 G s σ H v r) (e : esc r s = some (r', s')) :
    ∃ G', Stp G0 s0 σ0 H0 G' s' σ H ∧ SA K G' s' σ H ∧ Ex G G' ∧ AR K G' v r' := by
  cases r with
  | val d => cases e; exact ⟨G, st, S, Ex.refl G, h⟩
  | raw u => cases e; exact ⟨G, st, S, Ex.refl G, h⟩
  | ob o => cases e; exact ⟨G, st, S, Ex.refl G, h⟩
  | new ds =>
    cases e
    obtain ⟨a, xs, rfl, ha, hd, hg, h0, hn⟩ := h
    obtain ⟨ug, S', rp⟩ := know S ha hd hg hn
    refine ⟨_, ⟨st.ex.trans ug, fun b u hb nb => ?_, st.own, st.dom, st.pw⟩, S', ug, rp⟩
    obtain ⟨h1, g1⟩ := st.keep b u hb nb
    exact ⟨h1, by rw [upd_ne fun z => by subst z; rw [h0] at hb; cases hb]; exact g1⟩
  | slot i =>
    simp only [esc] at e
    split at e
    · rename_i ds q
      cases e
      obtain ⟨a, xs, e1, ha, st', S', rp⟩ := slot_known S q
      have h' : σ[i]? = some (some v) := h
      rw [e1] at h'
      cases h'
      exact ⟨_, st.trans st', S', st'.ex, rp⟩
    · rename_i d q
      cases e
      have h' : σ[i]? = some (some v) := h
      obtain ⟨u, e1, hd⟩ := S.slot i _ q
      rw [h'] at e1
      cases e1
      exact ⟨G, st, S, Ex.refl G, hd⟩
    · cases e
def fEsc (r : R) : M R := fun s => match esc r s with
  | some (r', s') => .ok r' s'
  | none => .stuck
theorem ar_mono {K : PySem.W.Frag} {G G' : Hp} {v : V} {r : R} (e : Ex G G') (h : AR K G v r) : AR K G' v r := by
  cases r with
  | val d => exact dp_mono e _ _ h
  | raw u => exact h
  | ob o => exact ob_mono e h
  | new ds => exact h
  | slot i => exact h
end
end DL

/-! DL5: argument lists, displays, slices, statements -/
noncomputable section
namespace DL
open PySem L2 PyProof.Rows
open Evl (Ex)
section
variable {K : PySem.W.Frag} {cl : String → Addr} {W : WX} {G H : Hp} {s : DSt} {σ : L2.St}
def OutF {α : Type} (K : PySem.W.Frag) (cl : String → Addr) (W : WX) (G0 : Hp) (s0 : DSt) (σ0 : L2.St) (H0 : Hp) (σ : L2.St) (r : Res α) (k : α → Hp → DSt → Hp → Prop) : Prop := match r with
  | .ok a s' => ∀ G' H', Stp G0 s0 σ0 H0 G' s' σ H' → SA K G' s' σ H' → k a G' s' H'
  | .err x s' => ∀ cls d G' H', Stp G0 s0 σ0 H0 G' s' σ H' → SA K G' s' σ H' → XRel K cl x cls d G' → W cls d σ H'
  | .stuck => False
theorem out_esc {β : Type} {f : Res R} {g : R → M β} {k : β → Hp → DSt → Hp → Prop} (h : Out K cl W G s σ H (f.bind fun r => bnd (fEsc r) g) k) :
    Out K cl W G s σ H f fun r G1 s1 H1 => ∀ v, RRel K H G1 s1 σ H1 v r → ∃ G2 s2 r2, Stp G s σ H G2 s2 σ H1 ∧ SA K G2 s2 σ H1 ∧ AR K G2 v r2 ∧ Ex G1 G2 ∧
      Out K cl W G2 s2 σ H1 (g r2 s2) k := by
  cases f with
  | ok r s1 =>
    intro G1 H1 st S1 v rr
    have h : Out K cl W G s σ H ((fEsc r s1).bind g) k := h
    unfold fEsc at h
    cases e : esc r s1 with
    | none => rw [e] at h; exact h.elim
    | some p =>
      obtain ⟨r2, s2⟩ := p
      rw [e] at h
      obtain ⟨G2, st2, S2, ex, ar⟩ := esc_ok S1 st rr e
      refine ⟨G2, s2, r2, st2, S2, ar, ex, ?_⟩
      have h : Out K cl W G s σ H (g r2 s2) k := h
      cases q : g r2 s2 with
      | ok b s3 => rw [q] at h; exact fun G3 H3 st3 S3 => h G3 H3 (st2.trans st3) S3
      | err x s3 => rw [q] at h; exact fun c d G3 H3 st3 S3 xr => h c d G3 H3 (st2.trans st3) S3 xr
      | stuck => rw [q] at h; exact h
  | err x s1 => exact h
  | stuck => exact h
def tAe (K : PySem.W.Frag) (cl : String → Addr) (W : WX) (f : M (List R)) : TA := fun σ H Q => ∃ G s, SA K G s σ H ∧ Out K cl W G s σ H (f s) fun rs G' s' H' => ∀ vs, Paired (AR K G') vs rs → Q vs H'
end
section
variable {X : Cx} {cl : String → Addr} {W : WX} {e a b c : Expr} {es : List Expr} {f g : M R} {fs : M (List R)} {pos : Pos}
abbrev DAe (X : Cx) (cl : String → Addr) (W : WX) (es : List Expr) (f : M (List R)) : Prop := PA X es (tAe X.K cl W f)
def fNil : M (List R) := ret []
def fCons (f : M R) (fs : M (List R)) : M (List R) := bnd f fun r => bnd (fEsc r) fun r' => bnd fs fun rs => ret (r' :: rs)
def pCons (f : M R) (fs : M (List R)) : M (List R) := bnd f fun r => bnd fs fun rs => ret (r :: rs)
theorem ae_nil : DAe X cl W [] fNil := pa_imp pa_nil fun σ H Q ⟨G, s, S, q⟩ => q G H Stp.refl S [] .nil
theorem ae_cons (ha : DE X cl W e f) (hr : DAe X cl W es fs) (hs : starEach (e :: es) X.env = (false, eval e X.env) :: starEach es X.env := by rfl) : DAe X cl W (e :: es) (fCons f fs) := by
  refine pa_imp (pa_cons ha hr hs) fun σ H Q ⟨G, s, S, q⟩ => ?_
  refine ⟨G, s, S, out_mono (out_esc q) fun r G1 s1 H1 st S1 k v rr => ?_⟩
  obtain ⟨G2, s2, r2, st2, S2, ar, ex, k2⟩ := k v rr
  refine ⟨G2, s2, S2, out_mono (out_bind k2) fun rs G3 s3 H3 st3 S3 k3 vs hv => ?_⟩
  exact k3 G3 H3 Stp.refl S3 (v :: vs) (.cons (ar_mono st3.ex ar) hv)
theorem ap_nil : DA X cl W [] fNil := pa_imp pa_nil fun σ H Q ⟨G, s, S, q⟩ => q G H Stp.refl S [] .nil
theorem pair_less {K : PySem.W.Frag} {H0 H1 G H : Hp} {s : DSt} {σ : L2.St} (d : ∀ a, H0 a ≠ none → H1 a ≠ none) : ∀ {vs : List V} {rs : List R}, RRels K H1 G s σ H vs rs → RRels K H0 G s σ H vs rs
  | _, _, .nil => .nil
  | _, _, .cons h t => .cons (h.less d) (pair_less d t)
theorem ap_cons (ha : DE X cl W e f) (hr : DA X cl W es fs) (hs : starEach (e :: es) X.env = (false, eval e X.env) :: starEach es X.env := by rfl) : DA X cl W (e :: es) (pCons f fs) := by
  refine pa_imp (pa_cons ha hr hs) fun σ H Q ⟨G, s, S, q⟩ => ?_
  refine ⟨G, s, S, out_mono (out_bind q) fun r G1 s1 H1 st S1 k v rr => ?_⟩
  refine ⟨G1, s1, S1, out_mono (out_bind k) fun rs G3 s3 H3 st3 S3 k3 vs hv => ?_⟩
  exact k3 G3 H3 Stp.refl S3 (v :: vs) (.cons (rr.mono st3) (pair_less st.dom hv))
def datas : List R → Option (List PyData)
  | [] => some []
  | .val d :: r => (datas r).map (d :: ·)
  | _ :: _ => none
theorem datas_rp {K : PySem.W.Frag} {G : Hp} : ∀ {rs : List R} {vs : List V} {ds : List PyData}, Paired (AR K G) vs rs → datas rs = some ds → RpAll K G vs ds
  | [], _, ds, .nil, e => by cases e; exact .nil
  | .val d :: r, _, ds, .cons h t, e => by
    simp only [datas] at e
    cases q : datas r with
    | none => rw [q] at e; cases e
    | some es => rw [q] at e; cases e; exact .cons h (datas_rp t q)
  | .raw _ :: _, _, _, _, e | .ob _ :: _, _, _, _, e | .new _ :: _, _, _, _, e | .slot _ :: _, _, _, _, e => by cases e
def fLst (fs : M (List R)) : M R := bnd fs fun rs s => match datas rs with
  | some ds => if leS (ds.length) then .ok (.new ds) s else .stuck
  | none => .stuck
def fTup (fs : M (List R)) : M R := bnd fs fun rs s => match datas rs with
  | some ds => if leS (ds.length) then .ok (.val (.tuple ds)) s else .stuck
  | none => .stuck
theorem d_lst (h : DAe X cl W es fs) : DE X cl W (.List es pos) (fLst fs) := by
  refine pe_imp (pe_lst h) fun σ H Q ⟨G, s, S, q⟩ => ?_
  refine ⟨G, s, S, out_mono (out_bind q) fun rs G1 s1 H1 st S1 k vs hv => ?_⟩
  split at k
  · rename_i ds e
    split at k
    · rename_i hl
      have hd := datas_rp hv e
      refine ⟨by rw [dps_len hd]; exact hl, fun p hp => ?_⟩
      obtain ⟨st2, S2, rr⟩ := new_list S1 hp hd st.dom
      exact k _ _ st2 S2 _ rr
    · exact k.elim
  · exact k.elim
theorem d_tup {x1} (h : DAe X cl W es fs) : DE X cl W (.Tuple es x1 pos) (fTup fs) := by
  refine pe_imp (pe_tup h) fun σ H Q ⟨G, s, S, q⟩ => ?_
  refine ⟨G, s, S, out_mono (out_bind q) fun rs G1 s1 H1 st S1 k vs hv => ?_⟩
  split at k
  · rename_i ds e
    split at k
    · rename_i hl
      have hd := datas_rp hv e
      refine ⟨by rw [dps_len hd]; exact hl, fun p hp => ?_⟩
      obtain ⟨st2, S2⟩ := new_known (.tup vs) S1 hp
      exact k _ _ st2 S2 _ (.tup upd_same (dps_mono st2.ex _ _ hd))
    · exact k.elim
  · exact k.elim

/-! ### slices -/
def fPart (f : M R) : M (Option Int) := bnd f fun r s => match look r s with
  | some (.int i) => .ok (some i) s
  | _ => .stuck
def fNoPart : M (Option Int) := ret none
def tP (K : PySem.W.Frag) (cl : String → Addr) (W : WX) (f : M (Option Int)) : TO := fun σ H Q => ∃ G s, SA K G s σ H ∧ Out K cl W G s σ H (f s) fun o _ _ H' => Q o H'
theorem po_imp {o : Option Expr} {t t' : TO} (h : PO X o t) (i : ∀ σ H Q, t' σ H Q → t σ H Q) : PO X o t' := ⟨fun pins s σ H Q I q => h.run pins s σ H Q I (i σ H Q q)⟩
abbrev DP (X : Cx) (cl : String → Addr) (W : WX) (o : Option Expr) (f : M (Option Int)) : Prop := PO X o (tP X.K cl W f)
theorem dp_none : DP X cl W none fNoPart := po_imp po_none fun σ H Q ⟨G, s, S, q⟩ => q G H Stp.refl S
theorem dp_some (h : DE X cl W e f) : DP X cl W (some e) (fPart f) := po_imp (po_some h) fun σ H Q ⟨G, s, S, q⟩ => by
  refine ⟨G, s, S, out_mono (out_bind q) fun r G1 s1 H1 st S1 k v rr => ?_⟩
  split at k
  · rename_i i e
    obtain rfl := dq_int (look_q S1 rr e)
    exact ⟨i, rfl, k G1 H1 Stp.refl S1⟩
  · exact k.elim
def cutD (xs : List PyData) (lo hi : Option Int) : List PyData := (xs.drop (HT.sIx xs.length 0 lo)).take (HT.sIx xs.length xs.length hi - HT.sIx xs.length 0 lo)
def sliceO (d : PyData) (lo hi : Option Int) : Option R := match d with
  | .list xs => some (.new (cutD xs lo hi))
  | .tuple xs => some (.val (.tuple (cutD xs lo hi)))
  | _ => none
def fSlice (f : M R) (l h : M (Option Int)) : M R := bnd f fun x => bnd l fun lo => bnd h fun hi s => match look x s with
  | some d => match sliceO d lo hi with
    | some (.slot _) => .stuck
    | some r => .ok r s
    | none => .stuck
  | none => .stuck
theorem cut_rp {K : PySem.W.Frag} {G : Hp} {xs : List V} {ds : List PyData} {lo hi : Option Int} (h : RpAll K G xs ds) : RpAll K G (cutV xs lo hi) (cutD ds lo hi) := by
  unfold cutV cutD
  rw [dps_len h]
  exact dps_take _ (dps_drop _ h)
theorem d_slice {lo hi : Option Expr} {l h : M (Option Int)} {p2 : Pos} (ha : DE X cl W e f) (hl : DP X cl W lo l) (hh : DP X cl W hi h) : DE X cl W (.Subscript e (.Slice lo hi none p2) pos) (fSlice f l h) := by
  refine pe_imp (pe_slice (sl_list.or sl_tupA) ha hl hh) fun σ H Q ⟨G, s, S, q⟩ => ?_
  refine ⟨G, s, S, out_mono (out_bind q) fun x G1 s1 H1 st1 S1 q1 v1 r1 => ⟨G1, s1, S1, ?_⟩⟩
  refine out_mono (out_bind q1) fun lo G2 s2 H2 st2 S2 q2 => ⟨G2, s2, S2, ?_⟩
  refine out_mono (out_bind q2) fun hi G3 s3 H3 st3 S3 q3 => ?_
  have r3 := (r1.mono st2).mono st3
  split at q3
  · rename_i d e
    have hd := look_q S3 r3 e
    split at q3
    · exact q3.elim
    · rename_i r ns ho
      have an := ans_of S3 ((st1.trans st2).trans st3).dom (fun i z => ns i z) q3
      unfold sliceO at ho
      split at ho
      · cases ho
        obtain ⟨p, xs, rfl, hp, hpx⟩ := dq_lst hd
        exact .inl ⟨p, xs, rfl, .of hp, fun l hl => an l _ hl (cut_rp hpx)⟩
      · rename_i ds
        cases ho
        obtain ⟨p, xs, rfl, hp, hpx, h1⟩ := dq_tup S3.gh hd
        refine .inr ⟨p, xs, rfl, hp, fun ⟨z1, z2⟩ => ?_, fun _ l hl => an.2 _ l _ rfl hl (cut_rp hpx)⟩
        refine an.1 _ ?_
        have e1 : cutD ds lo hi = ds := by
          unfold cutD
          rw [← dps_len hpx, z1, z2, dps_len hpx]
          simp
        rw [e1]
        exact h1
      · cases ho
    · exact q3.elim
  · exact q3.elim
def revO : PyData → Option R
  | .list xs => some (.new xs.reverse)
  | _ => none
def fUn (o : R → M R) (f : M R) : M R := bnd f o
def negO : PyData → Option R
  | .int i => some (.val (.int (-i)))
  | _ => none
theorem d_neg (ha : DE X cl W e f) : DE X cl W (.UnaryOp .USub e pos) (fUn (lift1 negO) f) := by
  refine pe_imp (pe_un un_neg ha) fun σ H Q ⟨G, s, S, q⟩ => ?_
  refine ⟨G, s, S, out_mono (out_bind q) fun x G1 s1 H1 st1 S1 q1 v1 r1 => ?_⟩
  unfold lift1 at q1
  split at q1
  · rename_i d e
    have hd := look_q S1 r1 e
    split at q1
    · exact q1.elim
    · rename_i r ns ho
      have an := ans_of S1 st1.dom (fun i z => ns i z) q1
      unfold negO at ho
      split at ho
      · cases ho
        obtain rfl := dq_int hd
        exact ⟨_, rfl, an.1 _ (.int _)⟩
      · cases ho
    · exact q1.elim
  · exact q1.elim
def isNR (r : R) (s : DSt) : Option Bool := match r with
  | .raw v => some (decide (v = .non))
  | .ob _ => some false
  | r => match look r s with
    | some .none => some true
    | some _ => some false
    | none => none
def fIsN (neg : Bool) (f : M R) : M R := bnd f fun r s => match isNR r s with
  | some b => .ok (.val (.bool (if neg then !b else b))) s
  | none => .stuck
theorem isNR_ok {K : PySem.W.Frag} {H0 G H : Hp} {s : DSt} {σ : L2.St} {v : V} {r : R} {b : Bool} (S : SA K G s σ H) (h : RRel K H0 G s σ H v r) (e : isNR r s = some b) : decide (v = .non) = b := by
  have go : ∀ d, Dq K G H v d → (match some d with | some PyData.none => some true | some _ => some false | none => none) = some b → decide (v = .non) = b := by
    intro d hd e
    cases d with
    | none => cases e; cases (show Rp K G v .none from hd); rfl
    | bool x => cases e; cases (show Rp K G v (.bool x) from hd); rfl
    | int x => cases e; cases (show Rp K G v (.int x) from hd); rfl
    | str x => cases e; cases (show Rp K G v (.str x) from hd); rfl
    | list x => cases e; obtain ⟨a, xs, rfl, _⟩ := dq_lst hd; rfl
    | tuple x => cases e; cases (show Rp K G v (.tuple x) from hd); rfl
    | dict x => cases (show Rp K G v (.dict x) from hd)
  unfold isNR at e
  split at e
  · cases e
    have h : v = _ := h
    rw [h]
  · cases e
    rename_i o
    cases o with
    | dict kvs => obtain ⟨a, vs, rfl, _⟩ := h; rfl
    | dictT kvs => obtain ⟨a, vs, rfl, _⟩ := h; rfl
    | exc x => obtain ⟨a, d, rfl, _⟩ := h; rfl
    | set S n => obtain ⟨a, rfl, _⟩ := h; rfl
    | scr ns => obtain ⟨a, rfl, _⟩ := h; rfl
    | excs n is => obtain ⟨a, vs, rfl, _⟩ := h; rfl
  · split at e
    · rename_i q; exact go _ (look_q S h q) e
    · rename_i d _ q
      refine go d (look_q S h q) ?_
      rw [← e]
      split
      · rename_i z _ w; exact absurd (Option.some.inj w) (by assumption)
      · rfl
      · rename_i w; cases w
    · cases e
theorem is_reads {rl : TE → TE} (neg : Bool) (hf : ∀ te σ H Q, te σ H (fun x H1 => Q (.bl (if neg then !decide (x = V.non) else decide (x = V.non))) H1) → rl te σ H Q) {K : PySem.W.Frag} {σ : L2.St} {H : Hp} {Q : VK} (q : tD K cl W (fIsN neg f) σ H Q) : rl (tD K cl W f) σ H Q := by
  obtain ⟨G, s, S, q⟩ := q
  refine hf _ _ _ _ ⟨G, s, S, out_mono (out_bind q) fun x G1 s1 H1 st1 S1 q1 v1 r1 => ?_⟩
  split at q1
  · rename_i b e
    have z := isNR_ok S1 r1 e
    have an := q1 G1 H1 Stp.refl S1 (.bl (if neg then !b else b)) (.bl _)
    rw [← z] at an
    exact an
  · exact q1.elim
theorem t_isN {j pos'} (ha : DE X cl W a f) : DT X cl W (.Compare a [.Is] [.Constant .none j pos'] pos) (fB (fIsN false f)) := pt_imp (pt_cmp (pc_isN ha) rfl) fun σ H Q q => is_reads (rl := tIsN) false (fun _ _ _ _ h => h) (test_of q)
theorem t_lt (ha : DE X cl W a f) (hb : DE X cl W b g) : DT X cl W (.Compare a [.Lt] [b] pos) (fB (fOp (lift2 ltO) f g)) := d_opT (fun h1 h2 => pt_cmpR op_lt h1 h2 (nomark _)) (ops_lift opd_lt) ha hb
theorem t_gt (ha : DE X cl W a f) (hb : DE X cl W b g) : DT X cl W (.Compare a [.Gt] [b] pos) (fB (fOp (lift2 gtO) f g)) := d_opT (fun h1 h2 => pt_cmpR op_gt h1 h2 (nomark _)) (ops_lift opd_gt) ha hb
theorem t_ge (ha : DE X cl W a f) (hb : DE X cl W b g) : DT X cl W (.Compare a [.GtE] [b] pos) (fB (fOp (lift2 geO) f g)) := d_opT (fun h1 h2 => pt_cmpR op_ge h1 h2 (nomark _)) (ops_lift opd_ge) ha hb
theorem t_eq (hu : X.A.units + 64 < cLine) (ha : DE X cl W a f) (hb : DE X cl W b g) : DT X cl W (.Compare a [.Eq] [b] pos) (fB (fOp (lift2 eqO) f g)) := d_opT (fun h1 h2 => pt_cmpR (op_eqP hu) h1 h2 (nomark _)) (ops_lift opd_eq) ha hb
theorem t_ne (hu : X.A.units + 64 < cLine) (ha : DE X cl W a f) (hb : DE X cl W b g) : DT X cl W (.Compare a [.NotEq] [b] pos) (fB (fOp (lift2 neO) f g)) := d_opT (fun h1 h2 => pt_cmpR (op_neP hu) h1 h2 (nomark _)) (ops_lift opd_ne) ha hb
theorem t_in (hu : X.A.units + 64 < cLine) (hm : behindInMarks .In b = false) (ha : DE X cl W a f) (hb : DE X cl W b g) : DT X cl W (.Compare a [.In] [b] pos) (fB (fOp (lift2 inO) f g)) := d_opT (fun h1 h2 => pt_cmpR (op_inP hu) h1 h2 hm) (ops_lift opd_in) ha hb
end
end DL

/-! DL6: statements, loops -/
noncomputable section
namespace DL
open PySem L2 PyProof.Rows
open Evl (Ex)
/-! ### a slot is set -/
def putS (i : Nat) (x : Sl) (s : DSt) : DSt := { s with d := s.d.set i x }
def store (i : Nat) (r : R) (s : DSt) : Option DSt := match r with
  | .val d => some (putS i (.val d) s)
  | .raw v => some (putS i (.raw v) s)
  | .ob o => some (putS i (.ob o) s)
  | .new ds => some (putS i (.own ds) s)
  | .slot j => match s.d[j]? with
    | some (.own ds) => some (putS i (.val (.list ds)) (putS j (.val (.list ds)) s))
    | some (.val d) => some (putS i (.val d) s)
    | _ => none
section
variable {K : PySem.W.Frag} {G H G0 H0 : Hp} {s s0 : DSt} {σ σ0 : L2.St}
theorem own_put {i j : Nat} {x : Sl} {v : V} {a : Addr} (hi : i < s.d.length) (hl : s.d.length = σ.length) : OwnAt (putS i x s) (σ.set i (some v)) j a → (j = i ∧ (∃ ds, x = .own ds) ∧ v = .ref a) ∨ (j ≠ i ∧ OwnAt s σ j a) := by
  rintro ⟨⟨ds, e⟩, h⟩
  by_cases q : j = i
  · subst q
    unfold putS at e
    simp only [List.getElem?_set_self hi] at e
    rw [List.getElem?_set_self (by omega)] at h
    cases e
    cases h
    exact .inl ⟨rfl, ⟨ds, rfl⟩, rfl⟩
  · unfold putS at e
    simp only [List.getElem?_set_ne (Ne.symm q)] at e
    rw [List.getElem?_set_ne (Ne.symm q)] at h
    exact .inr ⟨q, ⟨ds, e⟩, h⟩
theorem put_ok {i : Nat} {x : Sl} {v : V} (S : SA K G s σ H) (hi : i < s.d.length) (hx : SlOk K G H (some v) x) (ho : ∀ ds a, x = .own ds → v = .ref a → G a = none ∧ ¬ POwn s.w a ∧ ∀ j, j ≠ i → ¬ OwnAt s σ j a) : SA K G (putS i x s) (σ.set i (some v)) H := by
  refine ⟨by simp [putS, S.len], S.gh, fun j sl h => ?_, fun j k a h1 h2 => ?_, fun j a h => ?_, S.pw, fun j a h => ?_⟩
  · by_cases q : j = i
    · subst q
      simp only [putS, List.getElem?_set_self hi] at h
      cases h
      rw [List.getElem?_set_self (by rw [← S.len]; exact hi)]
      exact hx
    · simp only [putS, List.getElem?_set_ne (Ne.symm q)] at h
      rw [List.getElem?_set_ne (Ne.symm q)]
      exact S.slot j sl h
  · rcases own_put hi S.len h1 with ⟨e1, ⟨ds, e2⟩, e3⟩ | ⟨e1, h1⟩ <;> rcases own_put hi S.len h2 with ⟨f1, ⟨es, f2⟩, f3⟩ | ⟨f1, h2⟩
    · rw [e1, f1]
    · exact absurd h2 ((ho ds a e2 e3).2.2 k f1)
    · exact absurd h1 ((ho es a f2 f3).2.2 j e1)
    · exact S.inj j k a h1 h2
  · rcases own_put hi S.len h with ⟨e1, ⟨ds, e2⟩, e3⟩ | ⟨e1, h1⟩
    · exact (ho ds a e2 e3).1
    · exact S.ownG j a h1
  · rcases own_put hi S.len h with ⟨e1, ⟨ds, e2⟩, e3⟩ | ⟨e1, h1⟩
    · exact (ho ds a e2 e3).2.1
    · exact S.pne j a h1
theorem put_stp {i : Nat} {x : Sl} {v : V} (S : SA K G s σ H) (st : Stp G0 s0 σ0 H0 G s σ H) (hi : i < s.d.length) (ho : ∀ ds a, x = .own ds → v = .ref a → H0 a = none ∨ Own s σ a) : Stp G0 s0 σ0 H0 G (putS i x s) (σ.set i (some v)) H := by
  refine ⟨st.ex, st.keep, fun a z => ?_, st.dom, st.pw⟩
  rcases z with ⟨j, z⟩ | z
  · rcases own_put hi S.len z with ⟨e1, ⟨ds, e2⟩, e3⟩ | ⟨e1, h1⟩
    · rcases ho ds a e2 e3 with q | q
      · exact .inr q
      · exact st.own a q
    · exact st.own a (.inl ⟨j, h1⟩)
  · exact st.own a (.inr z)
theorem store_good {i : Nat} {r : R} {v : V} {s' : DSt} (S : SA K G s σ H) (st : Stp G0 s0 σ0 H0 G s σ H) (h : RRel K H0 G s σ H v r) (hi : i < s.d.length) (e : store i r s = some s') :
    ∃ G', Stp G0 s0 σ0 H0 G' s' (σ.set i (some v)) H ∧ SA K G' s' (σ.set i (some v)) H ∧ Ex G G' := by
  cases r with
  | val d => cases e; exact ⟨G, put_stp S st hi (by intro _ _ z; cases z), put_ok S hi ⟨v, rfl, h⟩ (by intro _ _ z; cases z), Ex.refl G⟩
  | ob o => cases e; exact ⟨G, put_stp S st hi (by intro _ _ z; cases z), put_ok S hi ⟨v, rfl, h⟩ (by intro _ _ z; cases z), Ex.refl G⟩
  | raw u =>
    cases e
    have h : v = u := h
    subst h
    exact ⟨G, put_stp S st hi (by intro _ _ z; cases z), put_ok S hi rfl (by intro _ _ z; cases z), Ex.refl G⟩
  | new ds =>
    cases e
    obtain ⟨a, xs, rfl, ha, hd, hg, h0, hn⟩ := h
    refine ⟨G, put_stp S st hi (fun es b z1 z2 => ?_), put_ok S hi ⟨a, xs, rfl, ha, hd⟩ (fun es b z1 z2 => ?_), Ex.refl G⟩
    · cases z2; exact .inl h0
    · cases z2; exact ⟨hg, fun z => hn (.inr z), fun j _ z => hn (.inl ⟨j, z⟩)⟩
  | slot j =>
    simp only [store] at e
    split at e
    · rename_i ds q
      cases e
      obtain ⟨a, xs, e1, ha, st', S', rp⟩ := slot_known S q
      have h' : σ[j]? = some (some v) := h
      rw [e1] at h'
      cases h'
      have hi' : i < ({ s with d := s.d.set j (.val (.list ds)) } : DSt).d.length := by simpa using hi
      exact ⟨_, put_stp S' (st.trans st') hi' (by intro _ _ z; cases z), put_ok S' hi' ⟨_, rfl, rp⟩ (by intro _ _ z; cases z), st'.ex⟩
    · rename_i d q
      cases e
      have h' : σ[j]? = some (some v) := h
      obtain ⟨u, e1, hd⟩ := S.slot j _ q
      rw [h'] at e1
      cases e1
      exact ⟨G, put_stp S st hi (by intro _ _ z; cases z), put_ok S hi ⟨v, rfl, hd⟩ (by intro _ _ z; cases z), Ex.refl G⟩
    · cases e
end
/-! ### flows -/
def fseq (f g : DSt → Flow) : DSt → Flow := fun s => match f s with
  | .next s' => g s'
  | x => x
def fnext : DSt → Flow := fun s => .next s
section
variable {K : PySem.W.Frag} {cl : String → Addr} {W : WX} {G H G' H' : Hp} {s s' : DSt} {σ σ' : L2.St}
theorem fout_shift {fl : Flow} {D : Ends} (st : Stp G s σ H G' s' σ' H') (h : FOut K cl W G s σ H fl D) : FOut K cl W G' s' σ' H' fl D := by
  cases fl with
  | next s2 => exact fun G2 σ2 H2 st2 S2 => h G2 σ2 H2 (st.trans st2) S2
  | brk s2 => exact fun G2 σ2 H2 st2 S2 => h G2 σ2 H2 (st.trans st2) S2
  | cnt s2 => exact fun G2 σ2 H2 st2 S2 => h G2 σ2 H2 (st.trans st2) S2
  | ret r s2 => exact fun v G2 σ2 H2 st2 S2 rr => h v G2 σ2 H2 (st.trans st2) S2 (rr.less st.dom)
  | err x s2 => exact fun c d G2 σ2 H2 st2 S2 xr => h c d G2 σ2 H2 (st.trans st2) S2 xr
  | stuck => exact h
def onRes {α : Type} (r : Res α) (g : α → DSt → Flow) : Flow := match r with
  | .ok a s => g a s
  | .err x s => .err x s
  | .stuck => .stuck
theorem fout_res {α : Type} {r : Res α} {g : α → DSt → Flow} {D : Ends} (h : FOut K cl W G s σ H (onRes r g) D) : Out K cl W G s σ H r fun a G1 s1 H1 => FOut K cl W G s σ H (g a s1) D := by
  cases r with
  | ok a s1 => exact fun G1 H1 st S1 => h
  | err x s1 => exact fun c d G1 H1 st S1 xr => h c d G1 σ H1 st S1 xr
  | stuck => exact h
end
section
variable {X : Cx} {cl : String → Addr} {W : WX} {e a b c : Expr} {es : List Expr} {f g : M R} {fs : M (List R)} {pos : Pos} {st : Stmt} {rest : List Stmt} {p q : DSt → Flow}
theorem ss_nil : DSs X cl W [] fnext := pss_imp pss_nil fun D σ H ⟨G, s, S, h⟩ => h G σ H Stp.refl S
theorem ss_cons (h1 : DS X cl W st p) (h2 : DSs X cl W rest q) : DSs X cl W (st :: rest) (fseq p q) := by
  refine pss_imp (pss_cons h1 h2) fun D σ H ⟨G, s, S, h⟩ => ⟨G, s, S, ?_⟩
  unfold fseq at h
  cases z : p s with
  | next s' =>
    rw [z] at h
    exact fun G1 σ1 H1 st1 S1 => ⟨G1, s', S1, fout_shift st1 h⟩
  | brk s' => rw [z] at h; exact h
  | cnt s' => rw [z] at h; exact h
  | ret r s' => rw [z] at h; exact h
  | err x s' => rw [z] at h; exact h
  | stuck => rw [z] at h; exact h
theorem ss_one (h1 : DS X cl W st p) : DSs X cl W [st] p := pss_one h1
def fbrk : DSt → Flow := fun s => .brk s
def fcnt : DSt → Flow := fun s => .cnt s
def fnever : DSt → Flow := fun _ => .stuck
theorem s_never : DS X cl W st fnever := ps_imp ps_never fun D σ H ⟨G, s, S, h⟩ => h
def fDrop (f : M R) : DSt → Flow := fun s => onRes (f s) fun _ s' => .next s'
theorem s_expr (h : DE X cl W e f) (hs : swapsWith e none pos.line X.env = pure false := by rfl) : DS X cl W (.Expr e pos) (fDrop f) := by
  refine ps_imp (ps_expr h hs) fun D σ H ⟨G, s, S, h⟩ => ⟨G, s, S, out_mono (fout_res h) fun r G1 s1 H1 st1 S1 k v rr => ?_⟩
  exact k G1 σ H1 st1 S1
def fRet (f : M R) : DSt → Flow := fun s => onRes (f s) fun r s' => .ret r s'
theorem s_ret (h : DE X cl W e f) : DS X cl W (.Return (some e) pos) (fRet f) := by
  refine ps_imp (ps_ret h) fun D σ H ⟨G, s, S, h⟩ => ⟨G, s, S, out_mono (fout_res h) fun r G1 s1 H1 st1 S1 k v rr => ?_⟩
  exact k v G1 σ H1 st1 S1 rr
def fRetN : DSt → Flow := fun s => .ret (.val .none) s
def fIfS (c : M Bool) (p q : DSt → Flow) : DSt → Flow := fun s => onRes (c s) fun b s' => if b then p s' else q s'
theorem s_if {c : Expr} {t : M Bool} {as bs : List Stmt} (hc : DT X cl W c t) (ha : DSs X cl W as p) (hb : DSs X cl W bs q) : DS X cl W (.If c as bs pos) (fIfS t p q) := by
  refine ps_imp (ps_if hc ha hb) fun D σ H ⟨G, s, S, h⟩ => ⟨G, s, S, out_mono (fout_res h) fun b G1 s1 H1 st1 S1 k => ?_⟩
  cases b with
  | true => exact ⟨G1, s1, S1, fout_shift st1 k⟩
  | false => exact ⟨G1, s1, S1, fout_shift st1 k⟩
def fSet (i : Nat) (f : M R) : DSt → Flow := fun s => onRes (f s) fun r s' => if i < s'.d.length then match store i r s' with
  | some s2 => .next s2
  | none => .stuck
  else .stuck
theorem set_reads {i : Nat} {D : Ends} {σ : L2.St} {H : Hp} {K : PySem.W.Frag} (q : tS K cl W (fSet i f) D σ H) : tAsg (tD K cl W f) (gName i) D σ H := by
  obtain ⟨G, s, S, h⟩ := q
  refine ⟨G, s, S, out_mono (fout_res h) fun r G1 s1 H1 st1 S1 k v rr => ?_⟩
  split at k
  · rename_i hi
    split at k
    · rename_i s2 e
      obtain ⟨G2, st2, S2, _⟩ := store_good S1 st1 rr hi e
      exact k G2 _ H1 st2 S2
    · exact k.elim
  · exact k.elim
theorem s_set {i : Nat} {x : Str} {pos' : Pos} (hN : X.N.Nodup) (hi : X.N[i]? = some x) (hx : Loc X.env.scope x) (he : DE X cl W e f) (hs : swapsWith e (some (.Name x pos')) pos.line X.env = pure false := by rfl) (hf : X.fn x = true ∨ X.env.scope.names.lookup x = some .local := by first | exact .inl rfl | exact .inr rfl | assumption) :
    DS X cl W (.Assign [.Name x pos'] e pos) (fSet i f) := ps_imp (ps_set hN hi hx he hs hf) fun D σ H q => set_reads q
end
end DL

/-! DL7: targets, what is walked, loops, comprehensions -/
noncomputable section
namespace DL
open PySem L2 PyProof.Rows
open Evl (Ex)
/-! ### targets -/
abbrev Bd := PyData → DSt → Option DSt
def GOk (K : PySem.W.Frag) (g : TG) (b : Bd) (js : List Nat) : Prop := ∀ (x : V) (d : PyData) (G : Hp) (s : DSt) (σ : L2.St) (H : Hp) (s' : DSt) (Q : L2.St → Hp → Prop), SA K G s σ H → Rp K G x d → b d s = some s' →
  (∀ σ', σ'.length = σ.length → (∀ i, i ∉ js → σ'[i]? = σ[i]?) → (∀ i : Nat, i ∉ js → s'.d[i]? = s.d[i]?) → s'.w = s.w → Stp G s σ H G s' σ' H → SA K G s' σ' H → Q σ' H) → g x σ H Q
def bName (i : Nat) : Bd := fun d s => if i < s.d.length then some (putS i (.val d) s) else none
theorem g_name {K : PySem.W.Frag} (i : Nat) : GOk K (gName i) (bName i) [i] := by
  intro x d G s σ H s' Q S rp e k
  unfold bName at e
  split at e
  · rename_i hi
    cases e
    refine k _ (by simp) (fun j hj => ?_) (fun j hj => ?_) rfl (put_stp S Stp.refl hi (by intro _ _ z; cases z)) (put_ok S hi ⟨x, rfl, rp⟩ (by intro _ _ z; cases z))
    · rw [List.getElem?_set_ne (fun z => hj (by simp [z]))]
    · simp only [putS]
      rw [List.getElem?_set_ne (fun z => hj (by simp [z]))]
  · cases e
abbrev Bds := List PyData → DSt → Option DSt
def GsOk (K : PySem.W.Frag) (g : TGs) (b : Bds) (js : List Nat) : Prop := ∀ (xs : List V) (ds : List PyData) (G : Hp) (s : DSt) (σ : L2.St) (H : Hp) (s' : DSt) (Q : L2.St → Hp → Prop), SA K G s σ H → RpAll K G xs ds → b ds s = some s' →
  (∀ σ', σ'.length = σ.length → (∀ i, i ∉ js → σ'[i]? = σ[i]?) → (∀ i : Nat, i ∉ js → s'.d[i]? = s.d[i]?) → s'.w = s.w → Stp G s σ H G s' σ' H → SA K G s' σ' H → Q σ' H) → g xs σ H Q
def bNil : Bds := fun ds s => match ds with
  | [] => some s
  | _ => none
def bCons (b : Bd) (bs : Bds) : Bds := fun ds s => match ds with
  | d :: r => match b d s with
    | some s' => bs r s'
    | none => none
  | [] => none
theorem g_nil {K : PySem.W.Frag} : GsOk K gNil bNil [] := by
  intro xs ds G s σ H s' Q S rp e k
  unfold bNil at e
  split at e
  · cases e
    cases rp
    exact ⟨rfl, k σ rfl (fun _ _ => rfl) (fun _ _ => rfl) rfl Stp.refl S⟩
  · cases e
theorem g_cons {K : PySem.W.Frag} {g : TG} {gs : TGs} {b : Bd} {bs : Bds} {js ks : List Nat} (h1 : GOk K g b js) (h2 : GsOk K gs bs ks) : GsOk K (gCons g gs) (bCons b bs) (js ++ ks) := by
  intro xs ds G s σ H s' Q S rp e k
  unfold bCons at e
  split at e
  · rename_i d r
    split at e
    · rename_i s1 e1
      cases rp with
      | cons rp1 rp2 =>
        refine ⟨_, _, rfl, h1 _ d G s σ H s1 _ S rp1 e1 fun σ1 l1 n1 m1 w1 st1 S1 => ?_⟩
        refine h2 _ r G s1 σ1 H s' _ S1 rp2 e fun σ2 l2 n2 m2 w2 st2 S2 => ?_
        exact k σ2 (l2.trans l1) (fun i hi => (n2 i fun z => hi (List.mem_append_right _ z)).trans (n1 i fun z => hi (List.mem_append_left _ z))) (fun i hi => (m2 i fun z => hi (List.mem_append_right _ z)).trans (m1 i fun z => hi (List.mem_append_left _ z))) (w2.trans w1) (st1.trans st2) S2
    · cases e
  · cases e
def bTup (n : Nat) (bs : Bds) : Bd := fun d s => match d with
  | .tuple ds => if ds.length = n then bs ds s else none
  | _ => none
theorem g_tup {K : PySem.W.Frag} {n : Nat} {gs : TGs} {bs : Bds} {js : List Nat} (h : GsOk K gs bs js) : GOk K (gTup K n gs) (bTup n bs) js := by
  intro x d G s σ H s' Q S rp e k
  unfold bTup at e
  split at e
  · split at e
    · rename_i ds hl
      cases rp with
      | tup hs ha => exact ⟨_, _, rfl, .of (S.gh _ _ hs), by rw [dps_len ha]; exact hl, h _ ds G s σ H s' Q S ha e k⟩
    · cases e
  · cases e
def bUnl (n : Nat) (bs : Bds) : Bd := fun d s => match d with
  | .list ds => if ds.length = n then bs ds s else none
  | _ => none
/-! ### what is walked -/
def ItOk (K : PySem.W.Frag) (J : It) (ds : List PyData) (G : Hp) : Prop := ∀ (G' : Hp) (s' : DSt) (σ' : L2.St) (H' : Hp), Ex G G' → SA K G' s' σ' H' → ∀ i,
  (∀ d, ds[i]? = some d → J.go i H' ∧ ∀ x H2, J.yld i H' x H2 → ∃ G2, Stp G' s' σ' H' G2 s' σ' H2 ∧ SA K G2 s' σ' H2 ∧ Rp K G2 x d) ∧ (ds.length ≤ i → J.stop i H')
def tI (K : PySem.W.Frag) (cl : String → Addr) (W : WX) (f : M (List PyData)) : TI := fun σ H R => ∃ G s, SA K G s σ H ∧ Out K cl W G s σ H (f s) fun ds G' s' H' => ∀ J, ItOk K J ds G' → R J H'
section
variable {X : Cx} {cl : String → Addr} {W : WX} {e a b c tg iter : Expr} {es : List Expr} {f g : M R} {fs : M (List R)} {fi : M (List PyData)} {pos : Pos}
abbrev DI (X : Cx) (cl : String → Addr) (W : WX) (tg e : Expr) (f : M (List PyData)) : Prop := PI X tg e (tI X.K cl W f)
theorem pi_imp {t t' : TI} (h : PI X tg e t) (i : ∀ σ H R, t' σ H R → t σ H R) : PI X tg e t' := ⟨fun pins s σ H R I q => h.run pins s σ H R I (i σ H R q)⟩
theorem it_list {K : PySem.W.Frag} {G : Hp} {a : Addr} {xs : List V} {ds : List PyData} (h : G a = some (.lst xs)) (hd : RpAll K G xs ds) (uq : ∀ (G' : Hp) (s' : DSt) (σ' : L2.St) (H' : Hp), Ex G G' → SA K G' s' σ' H' → H' a = some (.lst xs)) : ItOk K (Itl K a) ds G := by
  intro G' s' σ' H' ex S i
  have hH := uq G' s' σ' H' ex S
  refine ⟨fun d e => ?_, fun hl => ⟨xs, .of hH, by rw [dps_len hd]; exact hl⟩⟩
  have hi : i < xs.length := by rw [dps_len hd]; exact (List.getElem?_eq_some_iff.mp e).1
  refine ⟨⟨xs, xs[i], .of hH, by simp [hi]⟩, fun x H2 ⟨e2, y⟩ => ?_⟩
  subst e2
  obtain ⟨d', e', r⟩ := dps_get hd (y xs (.of hH))
  rw [e] at e'
  cases e'
  exact ⟨G', Stp.refl, S, dp_mono ex _ _ r⟩
theorem it_tup {K : PySem.W.Frag} {G : Hp} {a : Addr} {xs : List V} {ds : List PyData} (h : SqT K G a xs) (hd : RpAll K G xs ds) : ItOk K (Itt K a) ds G := by
  intro G' s' σ' H' ex S i
  have hH := Evl.ex_t S.gh (Evl.ex_t ex h)
  refine ⟨fun d e => ?_, fun hl => ⟨xs, hH, by rw [dps_len hd]; exact hl⟩⟩
  have hi : i < xs.length := by rw [dps_len hd]; exact (List.getElem?_eq_some_iff.mp e).1
  refine ⟨⟨xs, xs[i], hH, by simp [hi]⟩, fun x H2 ⟨e2, y⟩ => ?_⟩
  subst e2
  obtain ⟨d', e', r⟩ := dps_get hd (y xs hH)
  rw [e] at e'
  cases e'
  exact ⟨G', Stp.refl, S, dp_mono ex _ _ r⟩
def iSeq (K : PySem.W.Frag) (tl : TE) : TI := fun σ H R => tl σ H fun x H1 => (∃ a, x = .ref a ∧ (∃ xs, SqL K H1 a xs) ∧ R (Itl K a) H1) ∨ ∃ a, x = .ref a ∧ (∃ xs, SqT K H1 a xs) ∧ R (Itt K a) H1
theorem pi_seq {l : Expr} {tl : TE} (hl : PE X l tl) : PI X tg l (iSeq X.K tl) := by
  refine ⟨fun pins s σ H R I h => ?_⟩
  refine thn (hl.run pins s σ H _ I h) fun v s1 ⟨x, H1, I1, r1, q1⟩ => ?_
  rcases q1 with ⟨a, e, ⟨xs, hq⟩, q⟩ | ⟨a, e, ⟨xs, hq⟩, q⟩
  · subst e
    cases r1
    obtain ⟨its, rv, p, hz⟩ := I1.list hq
    refine wpAny_pyIter_list p.isList ?_
    refine ⟨s1.heap.objs.size, [s1.heap.objs.size], _, _, H1, rfl, I1.kept (t' := s1.toks) fun b o e => Heap.get?_push_of_some _ e, turn_list a _, ⟨_, Heap.get?_push_size _ rfl, rfl, rfl⟩, fun b hb => ?_, q⟩
    have e : b = s1.heap.objs.size := by simpa using hb
    subst e
    exact I1.fpOk (Nat.le_refl _) (I1.hok.fresh (Nat.le_refl _))
  · subst e
    cases r1
    obtain ⟨its, rv, p, hz⟩ := I1.tuple hq
    refine wpAny_pyIter_tuple (show s1.heap.IsTuple a its.toArray from p) ?_
    refine ⟨s1.heap.objs.size, [s1.heap.objs.size], _, _, H1, rfl, I1.kept (t' := s1.toks) fun b o e => Heap.get?_push_of_some _ e, turn_tuple a _, ⟨_, Heap.get?_push_size _ rfl, rfl, rfl⟩, fun b hb => ?_, q⟩
    have e : b = s1.heap.objs.size := by simpa using hb
    subst e
    exact I1.fpOk (Nat.le_refl _) (I1.hok.fresh (Nat.le_refl _))
def fLstI (f : M R) : M (List PyData) := bnd f fun r => bnd (fEsc r) fun r' s => match r' with
  | .val (.list ds) => .ok ds s
  | .val (.tuple ds) => .ok ds s
  | _ => .stuck
theorem i_list (h : DE X cl W e f) : DI X cl W tg e (fLstI f) := by
  refine pi_imp (pi_seq h) fun σ H R ⟨G, s, S, q⟩ => ?_
  refine ⟨G, s, S, out_mono (out_esc q) fun r G1 s1 H1 st1 S1 k v rr => ?_⟩
  obtain ⟨G2, s2, r2, st2, S2, ar, ex, k2⟩ := k v rr
  split at k2
  · rename_i ds
    cases (show Rp X.K G2 v (.list ds) from ar) with
    | lst hs ha => exact .inl ⟨_, rfl, ⟨_, .of (S2.gh _ _ hs)⟩, k2 G2 H1 Stp.refl S2 _ (it_list hs ha fun G' s' σ' H' ex' S' => S'.gh _ _ (ex' _ _ hs))⟩
  · rename_i ds
    cases (show Rp X.K G2 v (.tuple ds) from ar) with
    | tup hs ha => exact .inr ⟨_, rfl, ⟨_, .of (S2.gh _ _ hs)⟩, k2 G2 H1 Stp.refl S2 _ (it_tup (.of hs) ha)⟩
  · exact k2.elim
def fTupI (f : M R) : M (List PyData) := bnd f fun r s => match look r s with
  | some (.tuple ds) => .ok ds s
  | _ => .stuck
def rangeD (lo : Int) (n : Nat) : List PyData := (List.range n).map fun (k : Nat) => PyData.int (lo + (k : Int))
theorem it_range {K : PySem.W.Frag} {G : Hp} {lo : Int} {n : Nat} : ItOk K (Itr lo n) (rangeD lo n) G := by
  intro G' s' σ' H' ex S i
  refine ⟨fun d e => ?_, fun hl => show n ≤ i by simpa [rangeD] using hl⟩
  have hi : i < n := by have := (List.getElem?_eq_some_iff.mp e).1; simpa [rangeD] using this
  have e2 : d = .int (lo + (i : Int)) := by simp [rangeD, hi] at e; exact e.symm
  subst e2
  exact ⟨hi, fun x H2 ⟨e1, e3⟩ => by subst e1 e3; exact ⟨G', Stp.refl, S, .int _⟩⟩
def fRng1 (fs : M (List R)) : M (List PyData) := bnd fs fun rs s => match rs with
  | [r] => match look r s with
    | some (.int j) => if inB j then .ok (rangeD 0 j.toNat) s else .stuck
    | _ => .stuck
  | _ => .stuck
theorem i_range1 {p pos : Pos} (hg : Gl X "range") (hm : X.mg "range" = none) (ha : DA X cl W [a] fs) (hs : starEach [a] X.env = [(false, eval a X.env)] := by rfl) : DI X cl W tg (.Call (.Name "range" p) [a] [] pos) (fRng1 fs) := by
  refine pi_imp (pi_range1 hg hm ha hs) fun σ H R ⟨G, s, S, q⟩ => ?_
  refine ⟨G, s, S, out_mono (out_bind q) fun rs G1 s1 H1 st1 S1 k vs rr => ?_⟩
  split at k
  · rename_i r
    split at k
    · rename_i j e
      split at k
      · rename_i hb
        cases rr with
        | cons r1 r2 =>
          cases r2
          obtain rfl := dq_int (look_q S1 r1 e)
          exact ⟨j, rfl, hb.1, hb.2, k G1 H1 Stp.refl S1 _ it_range⟩
      · exact k.elim
    · exact k.elim
  · exact k.elim
def fRng2 (fs : M (List R)) : M (List PyData) := bnd fs fun rs s => match rs with
  | [r, r2] => match look r s, look r2 s with
    | some (.int i), some (.int j) => if inB i ∧ inB j then .ok (rangeD i (j - i).toNat) s else .stuck
    | _, _ => .stuck
  | _ => .stuck
theorem i_range2 {p pos : Pos} (hg : Gl X "range") (hm : X.mg "range" = none) (ha : DA X cl W [a, b] fs) (hs : starEach [a, b] X.env = [(false, eval a X.env), (false, eval b X.env)] := by rfl) (hs2 : starEach [b] X.env = [(false, eval b X.env)] := by rfl) :
    DI X cl W tg (.Call (.Name "range" p) [a, b] [] pos) (fRng2 fs) := by
  refine pi_imp (pi_range2 hg hm ha hs hs2) fun σ H R ⟨G, s, S, q⟩ => ?_
  refine ⟨G, s, S, out_mono (out_bind q) fun rs G1 s1 H1 st1 S1 k vs rr => ?_⟩
  split at k
  · split at k
    · rename_i i j e1 e2
      split at k
      · rename_i hb
        cases rr with
        | cons r1 r2 =>
          cases r2 with
          | cons r2 r3 =>
            cases r3
            obtain rfl := dq_int (look_q S1 r1 e1)
            obtain rfl := dq_int (look_q S1 r2 e2)
            exact ⟨i, j, rfl, ⟨hb.1.1, hb.1.2, hb.2.1, hb.2.2⟩, k G1 H1 Stp.refl S1 _ it_range⟩
      · exact k.elim
    · exact k.elim
  · exact k.elim
def enumD (ds : List PyData) : List PyData := ds.zipIdx.map fun p => .tuple [.int (p.2 : Int), p.1]
theorem it_enum {K : PySem.W.Frag} {G : Hp} {a : Addr} {xs : List V} {ds : List PyData} (h : G a = some (.lst xs)) (hd : RpAll K G xs ds) : ItOk K (Ite K a) (enumD ds) G := by
  intro G' s' σ' H' ex S i
  have hH : H' a = some (.lst xs) := S.gh _ _ (ex _ _ h)
  refine ⟨fun d e => ?_, fun hl => ⟨xs, .of hH, by rw [dps_len hd]; simpa [enumD] using hl⟩⟩
  have hi : i < ds.length := by have := (List.getElem?_eq_some_iff.mp e).1; simpa [enumD] using this
  have hx : i < xs.length := by rw [dps_len hd]; exact hi
  have e2 : d = .tuple [.int (i : Int), ds[i]] := by
    simp [enumD, hi] at e
    exact e.symm
  subst e2
  refine ⟨⟨xs, xs[i], .of hH, by simp [hx]⟩, fun x H2 ⟨T, y, e3, hT, e4, hy⟩ => ?_⟩
  subst e3 e4
  obtain ⟨d', e', r⟩ := dps_get hd (hy xs (.of hH))
  have e5 : d' = ds[i] := by rw [List.getElem?_eq_getElem hi] at e'; exact (Option.some.inj e').symm
  subst e5
  obtain ⟨st, S2⟩ := new_known (.tup [.int (i : Nat), y]) S hT
  exact ⟨_, st, S2, .tup upd_same (.cons (.int _) (.cons (dp_mono (ex.trans st.ex) _ _ r) .nil))⟩
def fEnum (fs : M (List R)) : M (List PyData) := bnd fs fun rs s => match rs with
  | [.val (.list ds)] => .ok (enumD ds) s
  | _ => .stuck
theorem i_enum {p pos tpos : Pos} {elts : List Expr} {kk : Nat} (hg : Gl X "enumerate") (hm : X.mg "enumerate" = none) (ha : DAe X cl W [e] fs) (hs : starEach [e] X.env = [(false, eval e X.env)] := by rfl) :
    DI X cl W (.Tuple elts kk tpos) (.Call (.Name "enumerate" p) [e] [] pos) (fEnum fs) := by
  refine pi_imp (pi_enum hg hm ha hs) fun σ H R ⟨G, s, S, q⟩ => ?_
  refine ⟨G, s, S, out_mono (out_bind q) fun rs G1 s1 H1 st1 S1 k vs rr => ?_⟩
  split at k
  · rename_i ds
    cases rr with
    | cons r1 r2 =>
      cases r2
      cases (show Rp X.K G1 _ (.list ds) from r1) with
      | lst h ha => exact ⟨_, _, rfl, .of (S1.gh _ _ h), k G1 H1 Stp.refl S1 _ (it_enum h ha)⟩
  · exact k.elim
def zipD (ds es : List PyData) : List PyData := (ds.zip es).map fun p => .tuple [p.1, p.2]
theorem it_zip {K : PySem.W.Frag} {G : Hp} {a b : Addr} {xs ys : List V} {ds es : List PyData} (h : G a = some (.lst xs)) (hd : RpAll K G xs ds) (h2 : G b = some (.lst ys)) (hd2 : RpAll K G ys es) : ItOk K (Itz K a b) (zipD ds es) G := by
  intro G' s' σ' H' ex S i
  have hH : H' a = some (.lst xs) := S.gh _ _ (ex _ _ h)
  have hH2 : H' b = some (.lst ys) := S.gh _ _ (ex _ _ h2)
  refine ⟨fun d e => ?_, fun hl => ⟨xs, ys, .of hH, .of hH2, ?_⟩⟩
  · have hi : i < ds.length ∧ i < es.length := by have := (List.getElem?_eq_some_iff.mp e).1; simp [zipD] at this; omega
    have hx : i < xs.length := by rw [dps_len hd]; exact hi.1
    have hy : i < ys.length := by rw [dps_len hd2]; exact hi.2
    have e2 : d = .tuple [ds[i], es[i]] := by
      have hz : i < (ds.zip es).length := by simp; omega
      simp only [zipD, List.getElem?_map, List.getElem?_eq_getElem hz, Option.map_some, List.getElem_zip] at e
      exact (Option.some.inj e).symm
    subst e2
    refine ⟨⟨xs, ys, xs[i], ys[i], .of hH, .of hH2, by simp [hx], by simp [hy]⟩, fun x H2 ⟨T, y, z, e3, hT, e4, q1, q2⟩ => ?_⟩
    subst e3 e4
    obtain ⟨d', e', r⟩ := dps_get hd (q1 xs (.of hH))
    obtain ⟨d2, e5, r2⟩ := dps_get hd2 (q2 ys (.of hH2))
    have e6 : d' = ds[i] := by rw [List.getElem?_eq_getElem hi.1] at e'; exact (Option.some.inj e').symm
    have e7 : d2 = es[i] := by rw [List.getElem?_eq_getElem hi.2] at e5; exact (Option.some.inj e5).symm
    subst e6 e7
    obtain ⟨st, S2⟩ := new_known (.tup [y, z]) S hT
    exact ⟨_, st, S2, .tup upd_same (.cons (dp_mono (ex.trans st.ex) _ _ r) (.cons (dp_mono (ex.trans st.ex) _ _ r2) .nil))⟩
  · rw [dps_len hd, dps_len hd2]
    simp [zipD] at hl
    omega
def fZip (fs : M (List R)) : M (List PyData) := bnd fs fun rs s => match rs with
  | [.val (.list ds), .val (.list es)] => .ok (zipD ds es) s
  | _ => .stuck
theorem i_zip {e2 : Expr} {p pos tpos : Pos} {elts : List Expr} {kk : Nat} (hg : Gl X "zip") (hm : X.mg "zip" = none) (ha : DAe X cl W [e, e2] fs) (h : ∀ {ta : TA}, PA X [e, e2] ta → PI X (.Tuple elts kk tpos) (.Call (.Name "zip" p) [e, e2] [] pos) (iZip X.K ta) := by intro ta h; exact pi_zip (by rfl) (by assumption) h) :
    DI X cl W (.Tuple elts kk tpos) (.Call (.Name "zip" p) [e, e2] [] pos) (fZip fs) := by
  refine pi_imp (h ha) fun σ H R ⟨G, s, S, q⟩ => ?_
  refine ⟨G, s, S, out_mono (out_bind q) fun rs G1 s1 H1 st1 S1 k vs rr => ?_⟩
  split at k
  · rename_i ds es
    cases rr with
    | cons r1 r2 =>
      cases r2 with
      | cons r2 r3 =>
        cases r3
        cases (show Rp X.K G1 _ (.list ds) from r1) with
        | lst h ha =>
          cases (show Rp X.K G1 _ (.list es) from r2) with
          | lst h' ha' => exact ⟨_, _, _, _, rfl, .of (S1.gh _ _ h), .of (S1.gh _ _ h'), k G1 H1 Stp.refl S1 _ (it_zip h ha h' ha')⟩
  · exact k.elim
end
end DL

/-! DL8: loops, comprehensions -/
noncomputable section
namespace DL
open PySem L2 PyProof.Rows
open Evl (Ex)
def loopF (b : Bd) (p : DSt → Flow) : List PyData → DSt → Flow
  | [], s => .next s
  | d :: ds, s => match b d s with
    | none => .stuck
    | some s1 => match p s1 with
      | .next s2 => loopF b p ds s2
      | .cnt s2 => loopF b p ds s2
      | .brk s2 => .next s2
      | .ret r s2 => .ret r s2
      | .err x s2 => .err x s2
      | .stuck => .stuck
def fFor (fi : M (List PyData)) (b : Bd) (p : DSt → Flow) : DSt → Flow := fun s => onRes (fi s) fun ds s' => loopF b p ds s'
def whileF (c : M Bool) (p : DSt → Flow) : Nat → DSt → Flow
  | 0, _ => .stuck
  | n + 1, s => onRes (c s) fun t s1 => if t then match p s1 with
      | .next s2 => whileF c p n s2
      | .cnt s2 => whileF c p n s2
      | .brk s2 => .next s2
      | .ret r s2 => .ret r s2
      | .err x s2 => .err x s2
      | .stuck => .stuck
    else .next s1
section
variable {X : Cx} {cl : String → Addr} {W : WX} {e a b c tg iter : Expr} {es : List Expr} {f g : M R} {fs : M (List R)} {fi : M (List PyData)} {pos : Pos} {p q : DSt → Flow}
theorem s_for {body : List Stmt} {gg : TG} {bd : Bd} {js : List Nat} (hp : PassesOwn (model X.prog X.w) X.A X.env X.xe) (hc : X.calm = true) (hi : DI X cl W tg iter fi) (hg : PG X tg gg) (ho : GOk X.K gg bd js) (hb : DSs X cl W body p)
    (hs : ∀ x, foldedSetIterable iter X.env x = pure x := by intro _; rfl) : DS X cl W (.For tg iter body [] pos) (fFor fi bd p) := by
  refine ps_imp (ps_for hp hc hi hg hb hs) fun D σ H ⟨G, s, S, h⟩ => ⟨G, s, S, out_mono (fout_res h) fun ds G1 s1 H1 st1 S1 k J hJ => ?_⟩
  have k := fout_shift st1 k
  refine ⟨fun i m σ2 H2 => ∃ G2 s2, SA X.K G2 s2 σ2 H2 ∧ Ex G1 G2 ∧ m = ds.length - i ∧ i ≤ ds.length ∧ FOut X.K cl W G2 s2 σ2 H2 (loopF bd p (ds.drop i) s2) D, ⟨ds.length, G1, s1, S1, Ex.refl G1, by simp, Nat.zero_le _, by simpa using k⟩, ?_⟩
  rintro i m σ2 H2 ⟨G2, s2, S2, ex2, rfl, hi, k2⟩
  obtain ⟨j1, j2⟩ := hJ G2 s2 σ2 H2 ex2 S2 i
  by_cases hl : i < ds.length
  · obtain ⟨go, yl⟩ := j1 ds[i] (List.getElem?_eq_getElem hl)
    rw [List.drop_eq_getElem_cons hl] at k2
    refine .inr ⟨go, fun σ3 H3 => ∃ G3 s3, SA X.K G3 s3 σ3 H3 ∧ Ex G1 G3 ∧ FOut X.K cl W G3 s3 σ3 H3 (loopF bd p (ds.drop (i + 1)) s3) D, fun σ3 H3 ⟨G3, s3, S3, ex3, k3⟩ => ⟨ds.length - (i + 1), by omega, G3, s3, S3, ex3, rfl, hl, k3⟩, fun x H3 y => ?_⟩
    obtain ⟨G3, st3, S3, rp⟩ := yl x H3 y
    unfold loopF at k2
    cases q : bd ds[i] s2 with
    | none => rw [q] at k2; exact k2.elim
    | some s4 =>
      rw [q] at k2
      refine ho x ds[i] G3 s2 σ2 H3 s4 _ S3 rp q fun σ4 l4 n4 m4 w4 st4 S4 => ⟨G3, s4, S4, ?_⟩
      have st34 := st3.trans st4
      have k2 := fout_shift st34 k2
      have ex4 := ex2.trans st34.ex
      dsimp only at k2 ⊢
      cases z : p s4 with
      | next s5 => rw [z] at k2; exact fun G5 σ5 H5 st5 S5 => ⟨G5, s5, S5, ex4.trans st5.ex, fout_shift st5 k2⟩
      | cnt s5 => rw [z] at k2; exact fun G5 σ5 H5 st5 S5 => ⟨G5, s5, S5, ex4.trans st5.ex, fout_shift st5 k2⟩
      | brk s5 => rw [z] at k2; exact fun G5 σ5 H5 st5 S5 => k2 G5 σ5 H5 st5 S5
      | ret r s5 => rw [z] at k2; exact k2
      | err x s5 => rw [z] at k2; exact k2
      | stuck => rw [z] at k2; exact k2
  · have e : i = ds.length := by omega
    subst e
    rw [List.drop_length] at k2
    exact .inl ⟨j2 (Nat.le_refl _), k2 G2 σ2 H2 Stp.refl S2⟩
theorem s_while {body : List Stmt} {t : M Bool} (n : Nat) (hp : PassesOwn (model X.prog X.w) X.A X.env X.xe) (hc : DT X cl W c t) (hb : DSs X cl W body p) : DS X cl W (.While c body [] pos) (whileF t p n) := by
  refine ps_imp (ps_while hp hc hb) fun D σ H ⟨G, s, S, h⟩ => ?_
  refine ⟨fun m σ2 H2 => ∃ G2 s2, SA X.K G2 s2 σ2 H2 ∧ FOut X.K cl W G2 s2 σ2 H2 (whileF t p m s2) D, ⟨n, G, s, S, h⟩, ?_⟩
  rintro m σ2 H2 ⟨G2, s2, S2, k2⟩
  cases m with
  | zero => exact k2.elim
  | succ m =>
    refine ⟨G2, s2, S2, out_mono (fout_res k2) fun b G3 s3 H3 st3 S3 k3 => ?_⟩
    have k3 := fout_shift st3 k3
    cases b with
    | false => exact k3 G3 σ2 H3 Stp.refl S3
    | true =>
      refine ⟨fun σ4 H4 => ∃ G4 s4, SA X.K G4 s4 σ4 H4 ∧ FOut X.K cl W G4 s4 σ4 H4 (whileF t p m s4) D, fun σ4 H4 ⟨G4, s4, S4, k4⟩ => ⟨m, Nat.lt_succ_self _, G4, s4, S4, k4⟩, G3, s3, S3, ?_⟩
      simp only [if_true] at k3
      cases z : p s3 with
      | next s5 => rw [z] at k3; exact fun G5 σ5 H5 st5 S5 => ⟨G5, s5, S5, fout_shift st5 k3⟩
      | cnt s5 => rw [z] at k3; exact fun G5 σ5 H5 st5 S5 => ⟨G5, s5, S5, fout_shift st5 k3⟩
      | brk s5 => rw [z] at k3; exact fun G5 σ5 H5 st5 S5 => k3 G5 σ5 H5 st5 S5
      | ret r s5 => rw [z] at k3; exact k3
      | err x s5 => rw [z] at k3; exact k3
      | stuck => rw [z] at k3; exact k3
def fAsgB (f : M R) (bd : Bd) : DSt → Flow := fun s => onRes (bnd f fEsc s) fun r s' => match r with
  | .val d => match bd d s' with
    | some s2 => .next s2
    | none => .stuck
  | _ => .stuck
/-! ### comprehensions -/
def putBack (vs : List Nat) (old new : List Sl) : List Sl := vs.foldl (fun l v => l.set v (old.getD v .no)) new
def blank (vs : List Nat) (d : List Sl) : List Sl := vs.foldl (fun l v => l.set v .no) d
def noOwn (vs : List Nat) (d : List Sl) : Bool := vs.all fun v => match d[v]? with
  | some (.own _) => false
  | _ => true
def nerr {α : Type} (r : Res α) : Res α := match r with
  | .err _ _ => .stuck
  | r => r
def loopC (b : Bd) (ft : M Bool) (fe : M R) (vs : List Nat) : List PyData → List PyData → M (List PyData)
  | [], acc, s => .ok acc s
  | d :: ds, acc, s => if noOwn vs s.d then match b d { s with d := blank vs s.d } with
      | none => .stuck
      | some s1 => (nerr (ft s1)).bind fun t s2 => if t then (nerr (bnd fe fEsc s2)).bind fun r s3 => match r with
            | .val x => loopC b ft fe vs ds (acc ++ [x]) { s3 with d := putBack vs s.d s3.d }
            | _ => .stuck
          else loopC b ft fe vs ds acc { s2 with d := putBack vs s.d s2.d }
    else .stuck
def fLc (fi : M (List PyData)) (b : Bd) (ft : M Bool) (fe : M R) (vs : List Nat) : M R := bnd fi fun ds => bnd (fun s => if leS (ds.length) then loopC b ft fe vs ds [] s else .stuck) fun acc => ret (.new acc)
theorem blank_get (d : List Sl) (i : Nat) : ∀ vs : List Nat, (blank vs d)[i]? = if i ∈ vs then (if i < d.length then some .no else none) else d[i]? := by
  intro vs
  unfold blank
  induction vs generalizing d with
  | nil => simp
  | cons v vs ih =>
    rw [List.foldl_cons, ih]
    by_cases h : i ∈ vs
    · simp [h]
    · by_cases hv : i = v
      · subst hv; simp [h, List.getElem?_set]
      · simp [h, hv, List.getElem?_set_ne (Ne.symm hv)]
theorem blank_len (d : List Sl) : ∀ vs : List Nat, (blank vs d).length = d.length := by
  intro vs
  unfold blank
  induction vs generalizing d with
  | nil => rfl
  | cons v vs ih => rw [List.foldl_cons, ih]; simp
theorem back_len (old new : List Sl) : ∀ vs : List Nat, (putBack vs old new).length = new.length := by
  intro vs
  unfold putBack
  induction vs generalizing new with
  | nil => rfl
  | cons v vs ih => rw [List.foldl_cons, ih]; simp
theorem back_get (old new : List Sl) (i : Nat) : ∀ vs : List Nat, (putBack vs old new)[i]? = if i ∈ vs then (if i < new.length then some (old.getD i .no) else none) else new[i]? := by
  intro vs
  unfold putBack
  induction vs generalizing new with
  | nil => simp
  | cons v vs ih =>
    rw [List.foldl_cons, ih]
    by_cases h : i ∈ vs
    · simp [h]
    · by_cases hv : i = v
      · subst hv; simp [h, List.getElem?_set]
      · simp [h, hv, List.getElem?_set_ne (Ne.symm hv)]
theorem wipe_get (σ : L2.St) (i : Nat) : ∀ vs : List Nat, (wipe σ vs)[i]? = if i ∈ vs then (if i < σ.length then some none else none) else σ[i]? := by
  intro vs
  induction vs with
  | nil => simp [wipe]
  | cons v vs ih =>
    unfold wipe
    by_cases hv : i = v
    · subst hv
      simp [List.getElem?_set, wipe_length]
    · rw [List.getElem?_set_ne (Ne.symm hv), ih]
      simp [hv]
theorem wipe_same {σ σ' : L2.St} {vs : List Nat} (hl : σ'.length = σ.length) (h : ∀ i, i ∉ vs → σ'[i]? = σ[i]?) : wipe σ' vs = wipe σ vs := by
  apply List.ext_getElem?
  intro i
  rw [wipe_get, wipe_get, hl]
  by_cases q : i ∈ vs
  · simp [q]
  · simp [q, h i q]
theorem wipe_wipe (σ : L2.St) (vs : List Nat) : wipe (wipe σ vs) vs = wipe σ vs := wipe_same (wipe_length _ _) fun i hi => by rw [wipe_get]; simp [hi]
section
variable {K : PySem.W.Frag} {G H : Hp} {s : DSt} {σ : L2.St}
theorem own_blank {vs : List Nat} {i : Nat} {a : Addr} (h : OwnAt { s with d := blank vs s.d } (wipe σ vs) i a) : OwnAt s σ i a ∧ i ∉ vs := by
  obtain ⟨⟨ds, e⟩, h⟩ := h
  simp only [blank_get] at e
  by_cases q : i ∈ vs
  · rw [if_pos q] at e; split at e <;> cases e
  · rw [if_neg q] at e
    rw [wipe_get, if_neg q] at h
    exact ⟨⟨⟨ds, e⟩, h⟩, q⟩
theorem sa_blank (vs : List Nat) (S : SA K G s σ H) (hn : noOwn vs s.d = true) : Stp G s σ H G { s with d := blank vs s.d } (wipe σ vs) H ∧ SA K G { s with d := blank vs s.d } (wipe σ vs) H := by
  refine ⟨⟨Ex.refl G, fun a o h _ => ⟨h, rfl⟩, fun a z => .inl ?_, fun a h => h, fun a h => h⟩, ⟨by simp [blank_len, wipe_length, S.len], S.gh, fun i sl h => ?_, fun i j a h1 h2 => S.inj i j a (own_blank h1).1 (own_blank h2).1, fun i a h => S.ownG i a (own_blank h).1, S.pw, fun i a h => S.pne i a (own_blank h).1⟩⟩
  · rcases z with ⟨i, z⟩ | z
    · exact .inl ⟨i, (own_blank z).1⟩
    · exact .inr z
  · simp only [blank_get] at h
    by_cases q : i ∈ vs
    · rw [if_pos q] at h
      split at h
      · cases h; trivial
      · cases h
    · rw [if_neg q] at h
      rw [wipe_get, if_neg q]
      exact S.slot i sl h
theorem sa_back {G2 H2 : Hp} {s2 : DSt} {σ2 : L2.St} {vs : List Nat} (S : SA K G s σ H) (hn : noOwn vs s.d = true) (S2 : SA K G2 s2 σ2 H2) (ex : Ex G G2) (hw : wipe σ2 vs = wipe σ vs) :
    SA K G2 { s2 with d := putBack vs s.d s2.d } σ H2 ∧ ∀ a, Own { s2 with d := putBack vs s.d s2.d } σ a → Own s2 σ2 a := by
  have hl : σ2.length = σ.length := by rw [← wipe_length σ2 vs, hw, wipe_length]
  have hs : ∀ i, i ∉ vs → σ2[i]? = σ[i]? := fun i hi => by
    have := congrArg (fun l : L2.St => l[i]?) hw
    simp only [wipe_get, if_neg hi] at this
    exact this
  have ho : ∀ i a, OwnAt { s2 with d := putBack vs s.d s2.d } σ i a → OwnAt s2 σ2 i a := by
    rintro i a ⟨⟨ds, e⟩, h⟩
    simp only [back_get] at e
    by_cases q : i ∈ vs
    · rw [if_pos q] at e
      split at e
      · have e := Option.some.inj e
        have hn := List.all_eq_true.mp hn i q
        have e2 : s.d[i]? = some (.own ds) := by
          rw [List.getD_eq_getElem?_getD] at e
          cases z : s.d[i]? with
          | none => rw [z] at e; cases e
          | some o => rw [z] at e; simp at e; rw [e]
        rw [e2] at hn
        cases hn
      · cases e
    · rw [if_neg q] at e
      exact ⟨⟨ds, e⟩, by rw [hs i q]; exact h⟩
  refine ⟨⟨by simp [back_len, S2.len, hl], S2.gh, fun i sl h => ?_, fun i j a h1 h2 => S2.inj i j a (ho i a h1) (ho j a h2), fun i a h => S2.ownG i a (ho i a h), S2.pw, fun i a h => S2.pne i a (ho i a h)⟩, fun a z => ?_⟩
  · simp only [back_get] at h
    by_cases q : i ∈ vs
    · rw [if_pos q] at h
      split at h
      · have h := Option.some.inj h
        have hn := List.all_eq_true.mp hn i q
        rw [List.getD_eq_getElem?_getD] at h
        cases z : s.d[i]? with
        | none => rw [z] at h; simp at h; subst h; trivial
        | some o =>
          rw [z] at h
          simp at h
          subst h
          have sl := S.slot i _ z
          cases o with
          | no => trivial
          | val d => obtain ⟨v, e, hd⟩ := sl; exact ⟨v, e, dp_mono ex _ _ hd⟩
          | raw v => exact sl
          | ob o => obtain ⟨v, e, hd⟩ := sl; exact ⟨v, e, ob_mono ex hd⟩
          | own ds => rw [z] at hn; cases hn
      · cases h
    · rw [if_neg q] at h
      rw [← hs i q]
      exact S2.slot i sl h
  · rcases z with ⟨i, z⟩ | z
    · exact .inl ⟨i, ho i a z⟩
    · exact .inr z
end
theorem sa_write {K : PySem.W.Frag} {G H : Hp} {s : DSt} {σ : L2.St} {D : Addr} {o : HO} (S : SA K G s σ H) (hg : G D = none) (hn : ¬ Own s σ D) (hx : ∀ φ, H D ≠ some (.ext φ)) : SA K G s σ (upd H D o) := by
  refine ⟨S.len, fun a u h => ?_, fun i sl h => ?_, S.inj, S.ownG, ?_, S.pne⟩
  · rw [upd_ne fun z => by subst z; rw [hg] at h; cases h]; exact S.gh a u h
  · have q := S.slot i sl h
    cases sl with
    | no => trivial
    | val d => exact q
    | raw v => exact q
    | ob o => exact q
    | own es =>
      obtain ⟨a, xs, e, ha, hh⟩ := q
      refine ⟨a, xs, e, ?_, hh⟩
      rw [upd_ne fun z => hn (by
        subst z
        refine .inl ⟨i, ⟨es, h⟩, ?_⟩
        cases w : σ[i]? with
        | none => rw [w] at e; cases e
        | some o => rw [w] at e; simp at e; rw [e])]
      exact ha
  · exact pwok_to S.pw (fun b o h z => by rw [upd_ne fun q => hn (by subst q; exact .inr z)]; exact h) (fun b φ h => by rw [upd_ne fun q => by subst q; exact hx φ h]; exact h) fun b z => G_pown S.pw z
theorem lc_reads {K : PySem.W.Frag} {gg : TG} {bd : Bd} {js vs : List Nat} {ft : M Bool} {fe : M R} {fi : M (List PyData)} (ho : GOk K gg bd js) (hj : ∀ j ∈ js, j ∈ vs) {σ : L2.St} {H : Hp} {Q : VK} (q : tD K cl W (fLc fi bd ft fe vs) σ H Q) :
    tLc (tI K cl W fi) gg (tT K cl (fun _ _ _ _ => False) ft) (tD K cl (fun _ _ _ _ => False) fe) vs σ H Q := by
  obtain ⟨G, s, S, q⟩ := q
  refine ⟨G, s, S, out_mono (out_bind q) fun ds G1 s1 H1 st1 S1 k J hJ D hD => ?_⟩
  have k : Out K cl W G1 s1 σ H1 (if leS (ds.length) then loopC bd ft fe vs ds [] s1 else .stuck) _ := out_bind k
  by_cases hz : leS ds.length
  rotate_left
  · rw [if_neg hz] at k; exact k.elim
  rw [if_pos hz] at k
  have hz : ds.length ≤ sizeLine := hz
  obtain ⟨stD, SD, rrD⟩ := new_list (ds := []) S1 hD .nil st1.dom
  obtain ⟨aD, xD, eD, _, _, gD, _, nD⟩ := rrD
  cases eD
  refine ⟨fun i m H2 => ∃ G2 s2 acc accv, SA K G2 s2 σ H2 ∧ Stp G1 s1 σ H1 G2 s2 σ H2 ∧ H2 D = some (.lst accv) ∧ RpAll K G2 accv acc ∧ G2 D = none ∧ ¬ Own s2 σ D ∧ acc.length ≤ i ∧ m = ds.length - i ∧ i ≤ ds.length ∧
      Out K cl W G1 s1 σ H1 (loopC bd ft fe vs (ds.drop i) acc s2) _, ⟨ds.length, G1, s1, [], [], SD, stD, upd_same, .nil, gD, nD, Nat.le_refl _, by simp, Nat.zero_le _, by simpa using k⟩, ?_⟩
  rintro i m H2 ⟨G2, s2, acc, accv, S2, st2, hD2, hacc, gD2, nD2, hla, rfl, hi, k2⟩
  obtain ⟨j1, j2⟩ := hJ G2 s2 σ H2 st2.ex S2 i
  by_cases hl : i < ds.length
  · obtain ⟨go, yl⟩ := j1 ds[i] (List.getElem?_eq_getElem hl)
    rw [List.drop_eq_getElem_cons hl] at k2
    unfold loopC at k2
    refine .inr ⟨go, fun H3 => ∃ G3 s3 acc accv, SA K G3 s3 σ H3 ∧ Stp G1 s1 σ H1 G3 s3 σ H3 ∧ H3 D = some (.lst accv) ∧ RpAll K G3 accv acc ∧ G3 D = none ∧ ¬ Own s3 σ D ∧ acc.length ≤ i + 1 ∧
      Out K cl W G1 s1 σ H1 (loopC bd ft fe vs (ds.drop (i + 1)) acc s3) _, fun H3 ⟨G3, s3, acc, accv, a1, a2, a3, a4, a5, a6, a7, a8⟩ => ⟨ds.length - (i + 1), by omega, G3, s3, acc, accv, a1, a2, a3, a4, a5, a6, a7, rfl, hl, a8⟩, fun x H3 y => ?_⟩
    by_cases hn : noOwn vs s2.d = true
    rotate_left
    · rw [if_neg hn] at k2; exact k2.elim
    rw [if_pos hn] at k2
    obtain ⟨stB, SB⟩ := sa_blank vs S2 hn
    obtain ⟨j3, _⟩ := hJ G2 _ _ H2 st2.ex SB i
    obtain ⟨_, yl⟩ := j3 ds[i] (List.getElem?_eq_getElem hl)
    obtain ⟨G3, st3, S3, rp⟩ := yl x H3 y
    cases eb : bd ds[i] { s2 with d := blank vs s2.d } with
    | none => rw [eb] at k2; exact k2.elim
    | some s4 =>
      rw [eb] at k2
      refine ho x ds[i] G3 _ (wipe σ vs) H3 s4 _ S3 rp eb fun σ4 l4 n4 m4 w4 st4 S4 => ?_
      have hw : wipe σ4 vs = wipe σ vs := (wipe_same l4 fun i hi => n4 i fun z => hi (hj i z)).trans (wipe_wipe σ vs)
      refine ⟨hw, G3, s4, S4, ?_⟩
      have stA := (stB.trans st3).trans st4
      -- what holds behind the turn
      have fin : ∀ {G5 : Hp} {s5 : DSt} {H5 : Hp}, Stp G2 s2 σ H2 G5 s5 σ4 H5 → SA K G5 s5 σ4 H5 → SA K G5 { s5 with d := putBack vs s2.d s5.d } σ H5 ∧ Stp G1 s1 σ H1 G5 { s5 with d := putBack vs s2.d s5.d } σ H5 ∧ H5 D = some (.lst accv) ∧ G5 D = none ∧ ¬ Own { s5 with d := putBack vs s2.d s5.d } σ D := by
        intro G5 s5 H5 st5 S5
        obtain ⟨b1, b2⟩ := sa_back S2 hn S5 st5.ex hw
        obtain ⟨c1, c2⟩ := st5.keep D _ hD2 nD2
        have st6 : Stp G2 s2 σ H2 G5 { s5 with d := putBack vs s2.d s5.d } σ H5 := ⟨st5.ex, st5.keep, fun a z => st5.own a (b2 a z), st5.dom, st5.pw⟩
        exact ⟨b1, st2.trans st6, c1, c2.trans gD2, fun z => (st6.own D z).elim nD2 fun z => by rw [hD2] at z; cases z⟩
      have k2 : Out K cl W G1 s1 σ H1 ((nerr (ft s4)).bind _) _ := k2
      cases et : ft s4 with
      | err x s5 => rw [et] at k2; exact k2.elim
      | stuck => rw [et] at k2; exact k2.elim
      | ok t s5 =>
        rw [et] at k2
        intro G5 H5 st5 S5
        have st25 := stA.trans st5
        cases t with
        | false =>
          obtain ⟨b1, b2, b3, b4, b5⟩ := fin st25 S5
          exact ⟨G5, _, acc, accv, b1, b2, b3, dps_mono st25.ex _ _ hacc, b4, b5, Nat.le_succ_of_le hla, k2⟩
        | true =>
          have k2 : Out K cl W G1 s1 σ H1 ((nerr (bnd fe fEsc s5)).bind _) _ := k2
          refine ⟨G5, s5, S5, ?_⟩
          cases ef : fe s5 with
          | err x s6 => rw [bnd_app, ef] at k2; exact k2.elim
          | stuck => rw [bnd_app, ef] at k2; exact k2.elim
          | ok r s6 =>
            rw [bnd_app, ef] at k2
            intro G6 H6 st6 S6 v rr
            have k2 : Out K cl W G1 s1 σ H1 ((nerr (fEsc r s6)).bind _) _ := k2
            unfold fEsc at k2
            cases ee : esc r s6 with
            | none => rw [ee] at k2; exact k2.elim
            | some p =>
              obtain ⟨r2, s7⟩ := p
              rw [ee] at k2
              obtain ⟨G7, st7, S7, ex7, ar⟩ := esc_ok S6 st6 rr ee
              have st27 := st25.trans st7
              obtain ⟨b1, b2, b3, b4, b5⟩ := fin st27 S7
              cases r2 with
              | raw u => exact k2.elim
              | ob o => exact k2.elim
              | new u => exact k2.elim
              | slot u => exact k2.elim
              | val d =>
                have hacc7 := dps_mono st27.ex _ _ hacc
                refine ⟨accv, b3, ?_, G7, _, acc ++ [d], accv ++ [v], sa_write b1 b4 b5 (fun φ q => by rw [b3] at q; cases q), ⟨b2.ex, fun a o h1 h2 => ?_, b2.own, fun a h1 => ?_, b2.pw⟩, upd_same, dps_app hacc7 (.cons ar .nil), b4, b5, by simp; omega, k2⟩
                · rw [dps_len hacc]
                  omega
                · have ne : a ≠ D := fun z => by subst z; rw [hD] at h1; cases h1
                  rw [upd_ne ne]
                  exact b2.keep a o h1 h2
                · by_cases ne : a = D
                  · subst ne; rw [upd_same]; simp
                  · rw [upd_ne ne]; exact b2.dom a h1
  · have e : i = ds.length := by omega
    subst e
    rw [List.drop_length] at k2
    refine .inl ⟨j2 (Nat.le_refl _), ?_⟩
    have k3 := k2 G2 H2 st2 S2
    have k4 := k3 G2 H2 Stp.refl S2 (.ref D) ⟨D, accv, rfl, hD2, hacc, gD2, Classical.byContradiction fun z => st1.dom D z hD, nD2⟩
    exact k4
abbrev W0 : WX := fun _ _ _ _ => False
theorem d_lc {elt : Expr} {ifs : List Expr} {scope : Scope} {own : List (Str × Nat)} {gg : TG} {bd : Bd} {js : List Nat} {ft : M Bool} {fe : M R} (hc : X.calm = true) (hN : X.N.Nodup) (hi : DI X cl W tg iter fi) (ok : BlkOk X.N X.env.scope scope own) (ho : GOk X.K gg bd js) (hj : ∀ j ∈ js, j ∈ own.map (·.2))
    (hg : ∀ (s : Shared) (H : Hp) (C : Addr) (cl : List (Str × Addr)) (fp : List Addr), PG (X.blk s H scope (compEnvC scope cl C X.env) fp) tg gg) (ht : ∀ (s : Shared) (H : Hp) (C : Addr) (clo : List (Str × Addr)) (fp : List Addr), PTs (X.blk s H scope (compEnvC scope clo C X.env) fp) ifs (tT X.K cl W0 ft))
    (he : ∀ (s : Shared) (H : Hp) (C : Addr) (clo : List (Str × Addr)) (fp : List Addr), DE (X.blk s H scope (compEnvC scope clo C X.env) fp) cl W0 elt fe) (hs : ∀ x, foldedSetIterable iter X.env x = pure x := by intro _; rfl) :
    DE X cl W (.ListComp elt [⟨tg, iter, ifs, 0⟩] scope pos) (fLc fi bd ft fe (own.map (·.2))) := pe_imp (pe_lc hc hN hi ok hg ht he hs) fun σ H Q q => lc_reads ho hj q
theorem s_setLc {i : Nat} {y : Str} {py : Pos} {elt : Expr} {ifs : List Expr} {scope : Scope} {own : List (Str × Nat)} {spos : Pos} {gg : TG} {bd : Bd} {js : List Nat} {ft : M Bool} {fe : M R} (hc : X.calm = true) (hN : X.N.Nodup) (hy : X.N[i]? = some y) (hyl : X.env.scope.names.lookup y = some .local)
    (hsw : swapsWith (.ListComp elt [⟨tg, iter, ifs, 0⟩] scope pos) (some (.Name y py)) spos.line X.env = pure true) (hi : DI X cl W tg iter fi) (ok : BlkOk X.N X.env.scope scope own) (ho : GOk X.K gg bd js) (hj : ∀ j ∈ js, j ∈ own.map (·.2))
    (hg : ∀ (s : Shared) (H : Hp) (C : Addr) (cl : List (Str × Addr)) (fp : List Addr), PG (X.blk s H scope (compEnvC scope cl C X.env) fp) tg gg) (ht : ∀ (s : Shared) (H : Hp) (C : Addr) (clo : List (Str × Addr)) (fp : List Addr), PTs (X.blk s H scope (compEnvC scope clo C X.env) fp) ifs (tT X.K cl W0 ft))
    (he : ∀ (s : Shared) (H : Hp) (C : Addr) (clo : List (Str × Addr)) (fp : List Addr), DE (X.blk s H scope (compEnvC scope clo C X.env) fp) cl W0 elt fe) (hs : ∀ x, foldedSetIterable iter X.env x = pure x := by intro _; rfl) :
    DS X cl W (.Assign [.Name y py] (.ListComp elt [⟨tg, iter, ifs, 0⟩] scope pos) spos) (fSet i (fLc fi bd ft fe (own.map (·.2)))) := ps_imp (ps_setLc hc hN hy hyl hsw hi ok hg ht he hs) fun D σ H q => by
  have q' := set_reads q
  exact lc_reads ho hj q'
def fYes : M Bool := ret true
theorem dts_nil {K : PySem.W.Frag} : PTs X [] (tT K cl W fYes) := ⟨fun pins s σ H Q I ⟨G, st, S, h⟩ => pts_nil.run pins s σ H Q I (h G H Stp.refl S)⟩
theorem dts_one {t : M Bool} (h : DT X cl W c t) : PTs X [c] (tT X.K cl W t) := pts_one h
end
end DL

/-! DL9: built-ins, methods -/
noncomputable section
namespace DL
open PySem L2 PyProof.Rows
open Evl (Ex)
def looks : List R → DSt → Option (List PyData)
  | [], _ => some []
  | r :: rs, s => match look r s, looks rs s with
    | some d, some ds => some (d :: ds)
    | _, _ => none
theorem looks_q {K : PySem.W.Frag} {H0 G H : Hp} {s : DSt} {σ : L2.St} (S : SA K G s σ H) : ∀ {rs : List R} {vs : List V} {ds : List PyData}, RRels K H0 G s σ H vs rs → looks rs s = some ds → Paired (Dq K G H) vs ds
  | [], _, _, .nil, e => by cases e; exact .nil
  | r :: rs, _, ds, .cons h t, e => by
    simp only [looks] at e
    split at e
    · rename_i d es e1 e2
      cases e
      exact .cons (look_q S h e1) (looks_q S t e2)
    · cases e
def CallD (K : PySem.W.Frag) (r : List V → Hp → VK → Prop) (o : List PyData → Option R) : Prop := ∀ (G H : Hp) (vs : List V) (ds : List PyData) (r' : R) (Q : VK), Ex G H → Paired (Dq K G H) vs ds → o ds = some r' → Ans K G H r' Q → r vs H Q
def fCall (o : List PyData → Option R) (fs : M (List R)) : M R := bnd fs fun rs s => match looks rs s with
  | some ds => match o ds with
    | some (.slot _) => .stuck
    | some r => .ok r s
    | none => .stuck
  | none => .stuck
section
variable {X : Cx} {cl : String → Addr} {W : WX} {e a b c tg iter : Expr} {es : List Expr} {f g : M R} {fs : M (List R)} {fi : M (List PyData)} {pos : Pos} {p q : DSt → Flow}
theorem call_reads {K : PySem.W.Frag} {r : List V → Hp → VK → Prop} {o : List PyData → Option R} (h : CallD K r o) {σ : L2.St} {H : Hp} {Q : VK} (q : tD K cl W (fCall o fs) σ H Q) : tCB r (tA K cl W fs) σ H Q := by
  obtain ⟨G, s, S, q⟩ := q
  refine ⟨G, s, S, out_mono (out_bind q) fun rs G1 s1 H1 st1 S1 k vs hv => ?_⟩
  split at k
  · rename_i ds e1
    split at k
    · exact k.elim
    · rename_i r' ns ho
      exact h G1 H1 vs ds r' Q S1.gh (looks_q S1 hv e1) ho (ans_of S1 st1.dom (fun i z => ns i z) k)
    · exact k.elim
  · exact k.elim
theorem d_callB {x : Str} {p : Pos} {id : String} {r : List V → Hp → VK → Prop} {o : List PyData → Option R} (hc : CallR X (.builtin id) r) (h : CallD X.K r o) (hg : Gl X x) (hm : X.mg x = none) (hv : bootBuiltins x = some (.builtin id)) (ha : DA X cl W (e :: es) fs) (hn : x ≠ "__name__" := by decide) (hdb : (x == ("__debug__" : Str)) = false := by decide)
    (he : starEach (e :: es) X.env = (false, eval e X.env) :: starEach es X.env := by rfl) (hpl : (backTo pos (starEach es X.env)).any (·.1) = false := by rfl) : DE X cl W (.Call (.Name x p) (e :: es) [] pos) (fCall o fs) :=
  pe_imp (pe_callB hc hg hm hv ha hn hdb he hpl) fun σ H Q q => call_reads h q
theorem d_callTy {x : Str} {p : Pos} {T : String} {r : List V → Hp → VK → Prop} {o : List PyData → Option R} (hc : CallR X (.type T) r) (h : CallD X.K r o) (hg : Gl X x) (hm : X.mg x = none) (hv : bootBuiltins x = some (.type T)) (ha : DA X cl W (e :: es) fs) (hn : x ≠ "__name__" := by decide) (hdb : (x == ("__debug__" : Str)) = false := by decide)
    (he : starEach (e :: es) X.env = (false, eval e X.env) :: starEach es X.env := by rfl) (hpl : (backTo pos (starEach es X.env)).any (·.1) = false := by rfl) : DE X cl W (.Call (.Name x p) (e :: es) [] pos) (fCall o fs) :=
  pe_imp (pe_callTy hc hg hm hv ha hn hdb he hpl) fun σ H Q q => call_reads h q
theorem CallR.or' {f : Value} {r r' : List V → Hp → VK → Prop} (h : CallR X f r) (h' : CallR X f r') : CallR X f (fun vs H Q => r vs H Q ∨ r' vs H Q) := by
  intro pins s σ H vs us Q I rv q
  rcases q with q | q
  · exact h pins s σ H vs us Q I rv q
  · exact h' pins s σ H vs us Q I rv q
end
/-! the built-ins -/
def lenO : List PyData → Option R
  | [.list ds] => some (.val (.int ds.length))
  | [.tuple ds] => some (.val (.int ds.length))
  | [.str z] => if leS (z.length) then some (.val (.int z.length)) else none
  | _ => none
theorem cd_len {K : PySem.W.Frag} : CallD K (fun xs H Q => (∃ p ys, xs = [.ref p] ∧ (SqL K H p ys ∨ SqT K H p ys) ∧ Q (.int ys.length) H) ∨ ∃ z, xs = [.str z] ∧ z.length ≤ sizeLine ∧ Q (.int z.length) H) lenO := by
  intro G H vs ds r' Q ex hv ho k
  unfold lenO at ho
  split at ho
  · cases ho
    cases hv with
    | cons h t =>
      cases t
      obtain ⟨p, xs, rfl, hp, hx⟩ := dq_lst h
      refine .inl ⟨p, xs, rfl, .inl (.of hp), ?_⟩
      rw [dps_len hx]
      exact k.1 _ (.int _)
  · cases ho
    cases hv with
    | cons h t =>
      cases t
      obtain ⟨p, xs, rfl, hp, hx, _⟩ := dq_tup ex h
      refine .inl ⟨p, xs, rfl, .inr hp, ?_⟩
      rw [dps_len hx]
      exact k.1 _ (.int _)
  · split at ho
    · cases ho
      cases hv with
      | cons h t =>
        cases t
        obtain rfl := dq_str h
        exact .inr ⟨_, rfl, by assumption, k.1 _ (.int _)⟩
    · cases ho
  · cases ho
def listO : List PyData → Option R
  | [.list ds] => some (.new ds)
  | [.tuple ds] => some (.new ds)
  | _ => none
theorem cd_list {K : PySem.W.Frag} : CallD K (fun xs H Q => ∃ p ys, xs = [.ref p] ∧ (SqL K H p ys ∨ SqT K H p ys) ∧ ∀ l, H l = none → Q (.ref l) (upd H l (.lst ys))) listO := by
  intro G H vs ds r' Q ex hv ho k
  unfold listO at ho
  split at ho
  · cases ho
    cases hv with
    | cons h t =>
      cases t
      obtain ⟨p, xs, rfl, hp, hx⟩ := dq_lst h
      exact ⟨p, xs, rfl, .inl (.of hp), fun l hl => k l _ hl hx⟩
  · cases ho
    cases hv with
    | cons h t =>
      cases t
      obtain ⟨p, xs, rfl, hp, hx, _⟩ := dq_tup ex h
      exact ⟨p, xs, rfl, .inr hp, fun l hl => k l _ hl hx⟩
  · cases ho
def tupleO : List PyData → Option R
  | [.list ds] => some (.val (.tuple ds))
  | [.tuple ds] => some (.val (.tuple ds))
  | _ => none
theorem cd_tuple {K : PySem.W.Frag} : CallD K (fun xs H Q => ∃ p ys, xs = [.ref p] ∧ ((SqL K H p ys ∧ ∀ l, H l = none → Q (.ref l) (upd H l (.tup ys))) ∨ (SqT K H p ys ∧ Q (.ref p) H))) tupleO := by
  intro G H vs ds r' Q ex hv ho k
  unfold tupleO at ho
  split at ho
  · cases ho
    cases hv with
    | cons h t =>
      cases t
      obtain ⟨p, xs, rfl, hp, hx⟩ := dq_lst h
      exact ⟨p, xs, rfl, .inl ⟨.of hp, fun l hl => k.2 _ l _ rfl hl hx⟩⟩
  · cases ho
    cases hv with
    | cons h t =>
      cases t
      obtain ⟨p, xs, rfl, hp, hx, h1⟩ := dq_tup ex h
      exact ⟨p, xs, rfl, .inr ⟨hp, k.1 _ h1⟩⟩
  · cases ho
def intsD : List PyData → Option (List Int)
  | [] => some []
  | .int i :: r => (intsD r).map (i :: ·)
  | _ :: _ => none
def boolsD : List PyData → Option (List Bool)
  | [] => some []
  | .bool i :: r => (boolsD r).map (i :: ·)
  | _ :: _ => none
theorem ints_rp {K : PySem.W.Frag} {G : Hp} : ∀ {ds : List PyData} {vs : List V} {ns : List Int}, RpAll K G vs ds → intsD ds = some ns → vs = ns.map V.int
  | [], _, _, h, e => by cases h; cases e; rfl
  | .int i :: r, _, ns, h, e => by
    cases h with
    | cons h1 h2 =>
      cases h1
      simp only [intsD] at e
      cases q : intsD r with
      | none => rw [q] at e; cases e
      | some ms => rw [q] at e; cases e; rw [ints_rp h2 q]; rfl
  | .none :: _, _, _, _, e | .bool _ :: _, _, _, _, e | .str _ :: _, _, _, _, e | .list _ :: _, _, _, _, e | .tuple _ :: _, _, _, _, e | .dict _ :: _, _, _, _, e => by cases e
theorem bools_rp {K : PySem.W.Frag} {G : Hp} : ∀ {ds : List PyData} {vs : List V} {ns : List Bool}, RpAll K G vs ds → boolsD ds = some ns → vs = ns.map V.bl
  | [], _, _, h, e => by cases h; cases e; rfl
  | .bool i :: r, _, ns, h, e => by
    cases h with
    | cons h1 h2 =>
      cases h1
      simp only [boolsD] at e
      cases q : boolsD r with
      | none => rw [q] at e; cases e
      | some ms => rw [q] at e; cases e; rw [bools_rp h2 q]; rfl
  | .none :: _, _, _, _, e | .int _ :: _, _, _, _, e | .str _ :: _, _, _, _, e | .list _ :: _, _, _, _, e | .tuple _ :: _, _, _, _, e | .dict _ :: _, _, _, _, e => by cases e
theorem rp_ints {K : PySem.W.Frag} {G : Hp} : ∀ ns : List Int, RpAll K G (ns.map V.int) (ns.map PyData.int)
  | [] => .nil
  | n :: ns => .cons (.int n) (rp_ints ns)
@[simp] theorem intsD_map : ∀ ns : List Int, intsD (ns.map PyData.int) = some ns
  | [] => rfl
  | n :: ns => by simp [intsD, intsD_map ns]
@[simp] theorem boolsD_map : ∀ ns : List Bool, boolsD (ns.map PyData.bool) = some ns
  | [] => rfl
  | n :: ns => by simp [boolsD, boolsD_map ns]
def allO : List PyData → Option R
  | [.list ds] => (boolsD ds).map fun bs => .val (.bool (bs.all id))
  | _ => none
def anyO : List PyData → Option R
  | [.list ds] => (boolsD ds).map fun bs => .val (.bool (bs.any id))
  | _ => none
def sumO : List PyData → Option R
  | [.list ds] => (intsD ds).map fun bs => .val (.int bs.sum)
  | _ => none
theorem cd_all {K : PySem.W.Frag} : CallD K (rAll K) allO := by
  intro G H vs ds r' Q ex hv ho k
  unfold allO at ho
  split at ho
  · cases hv with
    | cons h t =>
      cases t
      obtain ⟨p, xs, rfl, hp, hx⟩ := dq_lst h
      rename_i es
      cases q : boolsD es with
      | none => rw [q] at ho; cases ho
      | some bs => rw [q] at ho; cases ho; exact ⟨p, bs, rfl, .of (by rw [← bools_rp hx q]; exact hp), k.1 _ (.bl _)⟩
  · cases ho
def maxI : List Int → Int
  | [] => 0
  | n :: ns => ns.foldl max n
def minI : List Int → Int
  | [] => 0
  | n :: ns => ns.foldl min n
theorem foldl_max_ge : ∀ (ns : List Int) (n : Int), n ≤ ns.foldl max n ∧ (∀ y ∈ ns, y ≤ ns.foldl max n) ∧ (ns.foldl max n = n ∨ ns.foldl max n ∈ ns)
  | [], n => by simp
  | m :: ns, n => by
    obtain ⟨h1, h2, h3⟩ := foldl_max_ge ns (max n m)
    simp only [List.foldl_cons, List.mem_cons]
    refine ⟨by omega, fun y hy => ?_, ?_⟩
    · rcases hy with rfl | hy
      · omega
      · exact h2 y hy
    · rcases h3 with h3 | h3
      · rcases Int.le_total n m with q | q
        · right; left; rw [h3]; omega
        · left; rw [h3]; omega
      · exact .inr (.inr h3)
theorem foldl_min_le : ∀ (ns : List Int) (n : Int), ns.foldl min n ≤ n ∧ (∀ y ∈ ns, ns.foldl min n ≤ y) ∧ (ns.foldl min n = n ∨ ns.foldl min n ∈ ns)
  | [], n => by simp
  | m :: ns, n => by
    obtain ⟨h1, h2, h3⟩ := foldl_min_le ns (min n m)
    simp only [List.foldl_cons, List.mem_cons]
    refine ⟨by omega, fun y hy => ?_, ?_⟩
    · rcases hy with rfl | hy
      · omega
      · exact h2 y hy
    · rcases h3 with h3 | h3
      · rcases Int.le_total n m with q | q
        · left; rw [h3]; omega
        · right; left; rw [h3]; omega
      · exact .inr (.inr h3)
theorem maxI_mem {ns : List Int} (h : ns ≠ []) : maxI ns ∈ ns := by
  cases ns with
  | nil => exact (h rfl).elim
  | cons n ns =>
    show ns.foldl max n ∈ n :: ns
    rcases (foldl_max_ge ns n).2.2 with q | q
    · rw [q]; exact List.mem_cons_self
    · exact List.mem_cons_of_mem _ q
theorem maxI_ge {ns : List Int} {y : Int} (h : y ∈ ns) : y ≤ maxI ns := by
  cases ns with
  | nil => cases h
  | cons n ns =>
    unfold maxI
    rcases List.mem_cons.mp h with rfl | h
    · exact (foldl_max_ge ns y).1
    · exact (foldl_max_ge ns n).2.1 y h
theorem minI_mem {ns : List Int} (h : ns ≠ []) : minI ns ∈ ns := by
  cases ns with
  | nil => exact (h rfl).elim
  | cons n ns =>
    show ns.foldl min n ∈ n :: ns
    rcases (foldl_min_le ns n).2.2 with q | q
    · rw [q]; exact List.mem_cons_self
    · exact List.mem_cons_of_mem _ q
theorem minI_le {ns : List Int} {y : Int} (h : y ∈ ns) : minI ns ≤ y := by
  cases ns with
  | nil => cases h
  | cons n ns =>
    unfold minI
    rcases List.mem_cons.mp h with rfl | h
    · exact (foldl_min_le ns y).1
    · exact (foldl_min_le ns n).2.1 y h
def maxO : List PyData → Option R
  | [.list ds] => match intsD ds with
    | some (n :: ns) => some (.val (.int (maxI (n :: ns))))
    | _ => none
  | [.int i, .int j] => some (.val (.int (if j > i then j else i)))
  | _ => none
def minO : List PyData → Option R
  | [.list ds] => match intsD ds with
    | some (n :: ns) => some (.val (.int (minI (n :: ns))))
    | _ => none
  | [.int i, .int j] => some (.val (.int (if j < i then j else i)))
  | _ => none
theorem cd_max {K : PySem.W.Frag} : CallD K (fun vs H Q => rMax K vs H Q ∨ ∃ i j, vs = [.int i, .int j] ∧ Q (.int (if j > i then j else i)) H) maxO := by
  intro G H vs ds r' Q ex hv ho k
  unfold maxO at ho
  split at ho
  · cases hv with
    | cons h t =>
      cases t
      obtain ⟨p, xs, rfl, hp, hx⟩ := dq_lst h
      split at ho
      · rename_i n ns q
        cases ho
        refine .inl ⟨p, n :: ns, rfl, .of (by rw [← ints_rp hx q]; exact hp), by simp, fun m hm hle => ?_⟩
        have e : m = maxI (n :: ns) := Int.le_antisymm (maxI_ge hm) (hle _ (maxI_mem (by simp)))
        rw [e]
        exact k.1 _ (.int _)
      · cases ho
  · cases ho
    cases hv with
    | cons h t =>
      cases t with
      | cons h2 t =>
        cases t
        obtain rfl := dq_int h
        obtain rfl := dq_int h2
        exact .inr ⟨_, _, rfl, k.1 _ (.int _)⟩
  · cases ho
theorem cd_min {K : PySem.W.Frag} : CallD K (fun vs H Q => rMin K vs H Q ∨ ∃ i j, vs = [.int i, .int j] ∧ Q (.int (if j < i then j else i)) H) minO := by
  intro G H vs ds r' Q ex hv ho k
  unfold minO at ho
  split at ho
  · cases hv with
    | cons h t =>
      cases t
      obtain ⟨p, xs, rfl, hp, hx⟩ := dq_lst h
      split at ho
      · rename_i n ns q
        cases ho
        refine .inl ⟨p, n :: ns, rfl, .of (by rw [← ints_rp hx q]; exact hp), by simp, fun m hm hle => ?_⟩
        have e : m = minI (n :: ns) := Int.le_antisymm (hle _ (minI_mem (by simp))) (minI_le hm)
        rw [e]
        exact k.1 _ (.int _)
      · cases ho
  · cases ho
    cases hv with
    | cons h t =>
      cases t with
      | cons h2 t =>
        cases t
        obtain rfl := dq_int h
        obtain rfl := dq_int h2
        exact .inr ⟨_, _, rfl, k.1 _ (.int _)⟩
  · cases ho
def absO : List PyData → Option R
  | [.int i] => some (.val (.int (if i < 0 then -i else i)))
  | _ => none
def intO : List PyData → Option R
  | [.int i] => some (.val (.int i))
  | [.bool b] => some (.val (.int (if b then 1 else 0)))
  | _ => none
theorem cd_int {K : PySem.W.Frag} : CallD K (fun xs H Q => (∃ i, xs = [.int i] ∧ Q (.int i) H) ∨ ∃ k, xs = [.bl k] ∧ Q (.int (if k then 1 else 0)) H) intO := by
  intro G H vs ds r' Q ex hv ho k
  unfold intO at ho
  split at ho
  · cases ho
    cases hv with
    | cons h t =>
      cases t
      obtain rfl := dq_int h
      exact .inl ⟨_, rfl, k.1 _ (.int _)⟩
  · cases ho
    cases hv with
    | cons h t =>
      cases t
      obtain rfl := dq_bl h
      exact .inr ⟨_, rfl, k.1 _ (.int _)⟩
  · cases ho
def sortI (ns : List Int) : List Int := ns.mergeSort fun a b => decide (a ≤ b)
theorem sortI_perm (ns : List Int) : (sortI ns).Perm ns := List.mergeSort_perm _ _
theorem sortI_le (ns : List Int) : (sortI ns).Pairwise (· ≤ ·) := by
  have h := List.pairwise_mergeSort (le := fun a b : Int => decide (a ≤ b)) (fun a b c h1 h2 => by simp at *; omega) (fun a b => by simp; omega) ns
  exact h.imp fun h => by simpa using h
theorem perm_sorted_eq : ∀ {l m : List Int}, l.Perm m → l.Pairwise (· ≤ ·) → m.Pairwise (· ≤ ·) → l = m
  | [], m, h, _, _ => by have := h.length_eq; cases m with | nil => rfl | cons => simp at this
  | a :: l, [], h, _, _ => by have := h.length_eq; simp at this
  | a :: l, b :: m, h, h1, h2 => by
    have ha := (List.pairwise_cons.mp h1)
    have hb := (List.pairwise_cons.mp h2)
    have e1 : a ∈ b :: m := h.mem_iff.mp List.mem_cons_self
    have e2 : b ∈ a :: l := h.mem_iff.mpr List.mem_cons_self
    have e : a = b := by
      rcases List.mem_cons.mp e1 with e | e
      · exact e
      · rcases List.mem_cons.mp e2 with f | f
        · exact f.symm
        · have := ha.1 b f; have := hb.1 a e; omega
    subst e
    rw [perm_sorted_eq (List.Perm.cons_inv h) ha.2 hb.2]
theorem sortI_eq {ns ms : List Int} (h : ms.Perm ns) (h2 : ms.Pairwise (· ≤ ·)) : ms = sortI ns := perm_sorted_eq (h.trans (sortI_perm ns).symm) h2 (sortI_le ns)
def sortDD (ds : List PyData) : List PyData := ds.mergeSort (PySem.W.sortLe (PyProof.Rows.listOrd PyProof.Rows.itemOrd) false PySem.W.keyToks)
def canSort (ds : List PyData) : Prop := PySem.W.AllAlike ds ∧ PySem.W.Sortable ds ∧ ∀ d ∈ ds, d.depth ≤ 50
instance (ds : List PyData) : Decidable (canSort ds) := Classical.propDecidable _
def sortedO : List PyData → Option R
  | [.list ds] => match intsD ds with
    | some ns => some (.new ((sortI ns).map .int))
    | none => if canSort ds then some (.new (sortDD ds)) else none
  | _ => none
def rSortedD (K : PySem.W.Frag) : List V → Hp → VK → Prop := fun vs H Q => ∃ (a : Addr) (xs : List V) (ds : List PyData), vs = [.ref a] ∧ SqL K H a xs ∧ DpAll K H xs ds ∧ canSort ds ∧
  ∀ zs : List (V × PyData), zs.Perm (xs.zip ds) → zs.map (·.2) = sortDD ds → ∀ p, H p = none → Q (.ref p) (upd H p (.lst (zs.map (·.1))))
theorem each_of {α β : Type} {R : α → β → Prop} : ∀ {as : List α} {bs : List β}, as.length = bs.length → (∀ (i : Nat) (a : α) (b : β), as[i]? = some a → bs[i]? = some b → R a b) → PySem.W.EachIs R as bs
  | [], [], _, _ => .nil
  | [], _ :: _, h, _ => by simp at h
  | _ :: _, [], h, _ => by simp at h
  | a :: as, b :: bs, h, f => .cons (f 0 a b rfl rfl) (each_of (by simpa using h) fun i a b h1 h2 => f (i + 1) a b (by simpa using h1) (by simpa using h2))
theorem dpsAll_get {K : PySem.W.Frag} {H : Hp} : ∀ {ds : List PyData} {vs : List V} {i : Nat} {v : V}, DpAll K H vs ds → vs[i]? = some v → ∃ d, ds[i]? = some d ∧ Dp K H v d
  | [], _, i, v, h, e => by cases h; simp at e
  | d :: ds, _, 0, v, h, e => by
    cases h with
    | cons h1 h2 => simp at e; subst e; exact ⟨d, rfl, h1⟩
  | d :: ds, _, i + 1, v, h, e => by
    cases h with
    | cons h1 h2 => simpa using dpsAll_get (i := i) h2 (by simpa using e)
theorem dpsAll_len {K : PySem.W.Frag} {H : Hp} : ∀ {ds : List PyData} {vs : List V}, DpAll K H vs ds → vs.length = ds.length
  | [], _, h => by cases h; rfl
  | d :: ds, _, h => by
    cases h with
    | cons h1 h2 => simp [dpsAll_len h2]
theorem vals_paired : ∀ {zs : List (V × PyData)} {us : List Value}, PySem.W.EachIs (fun (u : Value) (z : V × PyData) => RelV z.1 u) us zs → Vals (zs.map (·.1)) us
  | _, _, .nil => .nil
  | _, _, .cons r t => .cons r (vals_paired t)
section
variable {X : Cx}
theorem cr_sortedD (hu : X.A.units + 64 < cLine) : CallR X (.builtin "sorted") (rSortedD X.K) := by
  intro pins s σ H vs us Q I rv h
  obtain ⟨a, xs, ds, rfl, hs, hd, ⟨c1, c2, c3⟩, q⟩ := h
  obtain ⟨its, r, pl, hz⟩ := I.list hs
  rw [Vals.ref1 rv]
  have lx := dpsAll_len hd
  have li : its.length = xs.length := r.length.symm
  obtain ⟨zs, ezs⟩ : ∃ zs, zs = xs.zip ds := ⟨_, rfl⟩
  have lz : zs.length = its.length := by rw [ezs, List.length_zip]; omega
  have zget : ∀ (i : Nat) (z : V × PyData), zs[i]? = some z → xs[i]? = some z.1 ∧ ds[i]? = some z.2 := fun i z e => by
    rw [ezs, List.getElem?_zip_eq_some] at e
    exact e
  have both : ∀ (i : Nat) (u : Value) (z : V × PyData), its[i]? = some u → zs[i]? = some z → RelV z.1 u ∧ z.2 ∈ ds ∧ ∀ h', (∀ b o, s.heap.get? b = some o → h'.get? b = some o) → ∃ as, Reads h' u z.2 as := by
    intro i u z e1 e2
    obtain ⟨g1, g2⟩ := zget i z e2
    obtain ⟨u', e3, rr⟩ := r.get g1
    rw [e1] at e3
    cases e3
    refine ⟨rr, List.mem_of_getElem? g2, fun h' hk => ?_⟩
    obtain ⟨d, e4, dp⟩ := dpsAll_get hd g1
    rw [g2] at e4
    cases e4
    have J : Inv X pins σ H { s with heap := h', toks := s.toks } := I.kept hk
    exact Dp.reads J z.2 z.1 u dp rr
  have hsz : its.length ≤ sizeLine := by rw [li]; exact hz
  have old : ∀ b o, s.heap.get? b = some o → (PySem.W.sortingHeap (PySem.W.copyHeap s.heap its) (s.heap.objs.size + 1) its).get? b = some o := fun b o e => PySem.W.sorting_copy_old e
  have eD : PySem.W.EachIs (fun v d => ∃ as, Reads (PySem.W.sortingHeap (PySem.W.copyHeap s.heap its) (s.heap.objs.size + 1) its) v d as) its ds := each_of (by omega) fun i u d e1 e2 => by
    obtain ⟨x, e3⟩ : ∃ x, xs[i]? = some x := by
      have := (List.getElem?_eq_some_iff.mp e1).1
      exact ⟨_, List.getElem?_eq_getElem (by omega : i < xs.length)⟩
    have ez : zs[i]? = some (x, d) := by rw [ezs, List.getElem?_zip_eq_some]; exact ⟨e3, e2⟩
    exact (both i u (x, d) e1 ez).2.2 _ old
  have un : X.A.in1.in1.units = X.A.units + 2 := rfl
  have S := PySem.W.SortsAt.data (prog := X.prog) (w := X.w) (A := X.A.in1.in1) (s := { s with heap := PySem.W.sortingHeap (PySem.W.copyHeap s.heap its) (s.heap.objs.size + 1) its }) eD c1 c2 fun d hd => by
    have := c3 d hd
    rw [un]
    omega
  refine PySem.W.sorted_vals pl.isList S hsz ?_
  have e1 : PySem.W.EachIs (fun (u : Value) (z : V × PyData) => RelV z.1 u) its zs := each_of lz.symm fun i u z g1 g2 => (both i u z g1 g2).1
  have e2 : PySem.W.EachIs (fun v (z : V × PyData) => (PySem.W.dataKind (PySem.W.sortingHeap (PySem.W.copyHeap s.heap its) (s.heap.objs.size + 1) its) ds).keyOf v = some (PySem.W.keyToks z.2)) its zs := each_of lz.symm fun i u z g1 g2 => by
    obtain ⟨_, md, rd⟩ := both i u z g1 g2
    obtain ⟨as, rd⟩ := rd _ old
    exact PySem.W.dataKind_some c1 md rd
  have e3 := PySem.W.sortVals_each (κ := PySem.W.dataKind (PySem.W.sortingHeap (PySem.W.copyHeap s.heap its) (s.heap.objs.size + 1) its) ds) (rev := false) (fun z : V × PyData => PySem.W.keyToks z.2) e1 e2
  obtain ⟨ys, ey⟩ : ∃ ys, ys = zs.mergeSort (PySem.W.sortLe (PyProof.Rows.listOrd PyProof.Rows.itemOrd) false fun z : V × PyData => PySem.W.keyToks z.2) := ⟨_, rfl⟩
  have py : ys.Perm zs := by rw [ey]; exact List.mergeSort_perm _ _
  have my : ys.map (·.2) = sortDD ds := by
    have ed : zs.map (·.2) = ds := by rw [ezs]; exact List.map_snd_zip (by omega)
    rw [ey, ← ed]
    exact PySem.W.sort_maps (fun z : V × PyData => z.2) fun _ _ _ _ => rfl
  obtain ⟨out, eo⟩ : ∃ out, out = PySem.W.sortVals (PySem.W.dataKind (PySem.W.sortingHeap (PySem.W.copyHeap s.heap its) (s.heap.objs.size + 1) its) ds) false its its := ⟨_, rfl⟩
  rw [← eo] at e3 ⊢
  have e3 : PySem.W.EachIs (fun (u : Value) (z : V × PyData) => RelV z.1 u) out ys := by rw [ey]; exact e3
  have vo := vals_paired e3
  obtain ⟨ep, he'⟩ := PyProof.Rows.sortedAll_at s.heap its out.toArray
  have hlen : (ys.map (·.1)).length ≤ sizeLine := by rw [List.length_map, py.length_eq]; omega
  exact ⟨.ref _, upd H (s.heap.objs.size + 1) (.lst (ys.map (·.1))), I.laid (t' := s.toks) (fun _ _ => PyProof.Rows.sortedAll_old) (Nat.le_succ _) ⟨hlen, out, ep, vo, he'⟩, rfl, q ys (by rw [← ezs]; exact py) my _ (I.hok.fresh (Nat.le_succ _))⟩
end
theorem rps_zip {K : PySem.W.Frag} {G : Hp} : ∀ {zs : List (V × PyData)}, (∀ z ∈ zs, Rp K G z.1 z.2) → RpAll K G (zs.map (·.1)) (zs.map (·.2))
  | [], _ => .nil
  | z :: zs, h => .cons (h z List.mem_cons_self) (rps_zip fun z hz => h z (List.mem_cons_of_mem _ hz))
theorem cd_sorted {K : PySem.W.Frag} : CallD K (fun vs H Q => rSortedI K vs H Q ∨ rSortedD K vs H Q) sortedO := by
  intro G H vs ds r' Q ex hv ho k
  unfold sortedO at ho
  split at ho
  · cases hv with
    | cons h t =>
      cases t
      obtain ⟨p, xs, rfl, hp, hx⟩ := dq_lst h
      rename_i es
      cases q : intsD es with
      | none =>
        rw [q] at ho
        dsimp only at ho
        split at ho
        · rename_i hc
          cases ho
          refine .inr ⟨p, xs, es, rfl, .of hp, rps_dps _ _ (dps_mono ex _ _ hx), hc, fun zs pz mz l hl => ?_⟩
          have rz : RpAll K G (zs.map (·.1)) (zs.map (·.2)) := rps_zip fun z hz => by
            have hz := pz.mem_iff.mp hz
            obtain ⟨i, hi, e⟩ := List.mem_iff_getElem.mp hz
            have e : (xs.zip es)[i]? = some z := by rw [List.getElem?_eq_getElem hi, e]
            rw [List.getElem?_zip_eq_some] at e
            obtain ⟨d, e2, rr⟩ := dps_get hx e.1
            rw [e.2] at e2
            cases e2
            exact rr
          rw [mz] at rz
          exact k l _ hl rz
        · cases ho
      | some ns =>
        rw [q] at ho
        cases ho
        refine .inl ⟨p, ns, rfl, .of (by rw [← ints_rp hx q]; exact hp), fun ms l h1 h2 hl => ?_⟩
        rw [sortI_eq h1 h2]
        exact k l _ hl (rp_ints _)
  · cases ho
end DL

/-! DLg: promises of defs that are called where nothing is being written out (A.guards = some []) -/
noncomputable section
namespace DL
open PySem L2 PySem.Spec PyProof.Rows
open Evl (Ex)
structure RoomG (k : Nat) (A : Around) : Prop where
  room : Room k A
  quiet : A.guards = some []
theorem RoomG.mono {j k : Nat} {A : Around} (r : RoomG k A) (h : j ≤ k) : RoomG j A := ⟨r.room.mono h, r.quiet⟩
theorem RoomG.units {k : Nat} {A : Around} (r : RoomG k A) : A.units + 64 < cLine := r.room.units
theorem RoomG.deeper {k : Nat} {A : Around} (r : RoomG (k + 1) A) (env : Env) : RoomG k (A.deeper env) := ⟨r.room.deeper env, r.quiet⟩
structure FnG (P : Program) (w : World) (K : PySem.W.Frag) (mg : Str → Option Value) (base : Heap) (CX : CXT) (k : Nat) (f : Addr) (fd : FuncData) (ps : List Str) (sp : Sp) : Prop where
  many : ∀ vs H Q E, sp vs H Q E → vs.length = ps.length
  goes : ∀ (A : Around) (outer : List Env) (st : Shared) (H : Hp) (args : Args) (us : List Value) (vs : List V) (Q : VK) (E : XK), RoomG k A → Env0 P w K mg base A outer st H → BindsTo st fd args (ps.zip us) → Vals vs us → sp vs H Q E →
    codeAny (model P w) A (.call (.ref f) args) (CR CX outer P w H st Q E) st
section
variable {X : Cx} {CX : CXT} {k : Nat} {f : Addr} {fd : FuncData} {ps : List Str} {sp : Sp} {E : L2.St → XK} {x : Str} {p pos : Pos} {e : Expr} {es : List Expr} {t : TA}
theorem run_G {pins : List (Addr × Obj)} {σ : L2.St} {H : Hp} {st : Shared} {Q : VK} {us : List Value} {vs : List V} (F : FnG X.prog X.w X.K X.mg X.base CX k f fd ps sp) (hr : RoomG k X.A) (hb : Binds X.K fd ps []) (hx : PassesAt CX X σ (E σ))
    (I : Inv X pins σ H st) (r : Vals vs us) (h : sp vs H Q (E σ)) : wpAny (model X.prog X.w) X.A (call (.ref f) us) (EP X pins σ Q) X.xe st := by
  have hl : us.length = ps.length := r.length.symm.trans (F.many _ _ _ _ h)
  have hbind := hb st us I.kIn (by simpa using hl)
  rw [List.append_nil] at hbind
  refine wpAny_call (codeAny_mono (F.goes X.A X.stack st H ⟨us, []⟩ us vs Q (E σ) hr I.env0 hbind r h) ?_)
  intro res st' hq
  match res, hq with
  | .error z, hq => exact hx pins H st z st' I hq
  | .ok (.ret u), hq => exact I.after hq
  | .ok .next, hq => exact hq.elim
  | .ok .brk, hq => exact hq.elim
  | .ok .cont, hq => exact hq.elim
theorem pe_callG (F : FnG X.prog X.w X.K X.mg X.base CX k f fd ps sp) (hr : RoomG k X.A) (hg : Gl X x) (hm : X.mg x = some (.ref f)) (hk : PySem.W.keepIn X.K (.ref f) = true) (hb : Binds X.K fd ps []) (hx : ∀ σ, PassesAt CX X σ (E σ))
    (ha : PA X (e :: es) t) (hdb : (x == ("__debug__" : Str)) = false := by decide) (he : starEach (e :: es) X.env = (false, eval e X.env) :: starEach es X.env := by rfl) (hpl : (backTo pos (starEach es X.env)).any (·.1) = false := by rfl) :
    PE X (.Call (.Name x p) (e :: es) [] pos) (tCallS sp E t) :=
  ⟨fun pins st σ H Q I h => wpAny_Call_Name_kw (ld_glob I hg hm (PySem.W.callWith_K (h₀ := X.base) I.ok.mod.kin hk (thn (ha.run pos pins st σ H _ I h) fun _ _ ⟨_, _, I1, r, q⟩ => ⟨I1.kIn, run_G F hr hb (hx σ) I1 r q⟩) he hpl) hdb)⟩
end
section
variable {P : Program} {w : World} {K : PySem.W.Frag} {mg : Str → Option Value} {base : Heap}
theorem okG {x qual : Str} {d : Stmt} {f : Addr} {fd : FuncData} {N ps : List Str} {k : Nat} {sp : Sp} (F : Fun K x qual d f fd) (S : FnScope N ps (defScope d)) (many : ∀ vs H Q E, sp vs H Q E → vs.length = ps.length)
    (hbody : ∀ (cdv : Value) (A : Around) (outer : List Env) (st : Shared) (H : Hp) (vs : List V) (Q : VK) (E : XK), RoomG k (A.deeper (envOfC qual (defScope d) st.heap.objs.size f cdv)) → sp vs H Q E →
      ∃ t, PSs (cxOf (L2.CX P w) P w K mg base N qual (defScope d) f cdv A outer st H E) (defBody d) t ∧ t { nx := fun _ H' => Q .non H', rt := Q } (start N vs) H) : FnG P w K mg base (L2.CX P w) (k + 1) f fd ps sp := by
  obtain ⟨oc, od, kV, doc, pm, an, cdv, ct, osl, rfl, lk, hcd⟩ := F.ex
  refine ⟨many, ?_⟩
  intro A outer st H args us vs Q E hr e0 hb r hsp
  have up : ∀ b o, base.get? b = some o → st.heap.get? b = some o := fun b o z => (e0.bs b o z).1
  have KX : K.In st.heap := e0.mod.kin.keeps up
  refine codeAny_call_function hr.room.depth (KX _ _ lk) rfl S.co S.gen rfl (PySem.W.codeRec_of KX hcd) (hb _ _ _ _ (wpAny_newFunctionEnv_cells S.kind (fun y hy => ?_) fun env he st1 z => ?_))
  · rcases S.par y.1 (List.of_mem_zip (a := y.1) (b := y.2) hy).1 with q | q
    · exact .inl q
    · exact .inr ⟨q, PySem.W.cellsFrom_some _ _ _ (.inl q)⟩
  · subst he
    obtain ⟨t, ht, hq⟩ := hbody cdv A outer st H vs Q E (hr.deeper _) hsp
    have I : Inv (cxOf (L2.CX P w) P w K mg base N qual (defScope d) f cdv A outer st H E) [] (start N vs) H st1 := inv_start S hr.room.hd e0 (many _ _ _ _ hsp) r z
    refine ⟨(e0.mod.nolimit.keeps up).keeps z.toInCall.keep, codeAny_func (wpAny_mono (ht.run [] st1 (start N vs) H _ I hq) ?_ fun _ _ hs => hs)⟩
    intro fl st' hs
    match fl, hs with
    | .ret u, ⟨v, _, H', J, rv, q⟩ => exact ⟨v, H', J.os, J.bare, J.base, J.hok, rv, q⟩
    | .next, ⟨_, H', J, q⟩ => exact ⟨V.non, H', J.os, J.bare, J.base, J.hok, rfl, q⟩
    | .brk, ⟨_, _, _, q⟩ => exact q.elim
    | .cont, ⟨_, _, _, q⟩ => exact q.elim
end
/-! ### the end: the law is called where nothing is being written out -/
theorem quiet_caller {k : Nat} (h : Room k callerA) : RoomG k callerA := ⟨h, rfl⟩
section
variable {P : Program} {w : World} {K : PySem.W.Frag} {mg mb : Str → Option Value} {k : Nat} {fa a : Addr} {fd : FuncData} {x : Str} {sp : Sp} {s1 : Shared} {us : List Value} {ns : List Int}
def LawEnd (s1 : Shared) (r : Result) (s2 : Shared) : Prop := r = .ok (.ret (.bool true)) ∧ OldK s1.heap s2.heap ∧ s2.os = s1.os ∧ AllBare s2.gens
theorem law_from {H : Hp} (KX : K.In s1.heap) (G1 : s1.heap.Ns mainGlobals mg) (G2 : s1.heap.Ns builtinsNs mb) (G3 : ∀ x : Str, x ≠ "__name__" → mb x = bootBuiltins x) (G4 : s1.heap.NoLimit) (G5 : s1.gens = #[])
    (scr : s1.heap.get? a = some { cls := .type "list", data := .seq us.toArray }) (hr : Room k callerA) (F : ∀ base : Heap, K.In base → base.Ns mainGlobals mg → FnG P w K mg base (L2.CX P w) k fa fd [x] sp)
    (bi : ∀ (st : Shared) (u : Value), BindsTo st fd ⟨[u], []⟩ [(x, u)]) (on : Only H) (pr : sp [.ref a] H (fun v _ => v = .bl true) fun _ _ _ => False) (hok : HOk P w H s1.heap) (one : ∀ b, H b ≠ none → b = a) (out : H a ≠ none → K.lookup a = none) :
    codeAny (model P w) callerA (.call (.ref fa) ⟨[.ref a], []⟩) (LawEnd s1) s1 := by
  have free : ∀ b, b ≠ a → H b = none := fun b nb => Classical.byContradiction fun z => nb (one b z)
  have stays : ∀ (b : Addr) (m : Str → Option Value), s1.heap.Ns b m → (hidT s1.heap H).Ns b m := by
    rintro b m ⟨o, es, ep, e, d, r⟩
    refine ⟨o, es, ep, hidT_get e (free b ?_), d, r⟩
    rintro rfl
    rw [scr] at e
    cases e
    exact absurd d (by intro z; cases z)
  have K1 : K.In (hidT s1.heap H) := fun b o e => hidT_get (KX b o e) (Classical.byContradiction fun z => by
    have := one b z
    subst this
    rw [out z] at e
    cases e)
  obtain ⟨mc, l1, l2⟩ := G4
  have e0 : Env0 P w K mg (hidT s1.heap H) callerA [] s1 H := ⟨rfl, ⟨K1, stays _ _ G1, ⟨mb, stays _ _ G2, G3⟩, ⟨mc, stays _ _ l1, l2⟩⟩, fun _ _ e => of_hidT e, Nat.le_of_eq (hidT_size _ _), trivial, fun _ hb => (by cases hb), hok, .of_eq G5⟩
  refine codeAny_mono ((F _ K1 (stays _ _ G1)).goes callerA [] s1 H ⟨[.ref a], []⟩ [.ref a] [.ref a] _ _ (quiet_caller hr) e0 (bi s1 (.ref a)) (.cons rfl .nil) pr) ?_
  intro r s2 h
  match r, h with
  | .error _, h =>
    obtain ⟨_, _, _, _, _, _, _, _, _, _, _, _, z⟩ := h
    exact z.elim
  | .ok .next, h => exact h.elim
  | .ok .brk, h => exact h.elim
  | .ok .cont, h => exact h.elim
  | .ok (.ret u), ⟨v, H2, os, bare, un, hok2, rv, q⟩ =>
    have q : v = .bl true := q
    subst q
    have rv : u = Value.bool true := rv
    subst rv
    refine ⟨rfl, OldK.of_keep fun b o e => ?_, os, bare⟩
    rcases on b with z | ⟨ob, xs, z⟩
    · exact un.keep b o e z (fun y => by cases y) (fun y => by cases y)
    · have g1 := (hok b _ z).1
      rw [e] at g1
      cases g1
      exact (hok2 b _ (un.frzs b _ _ z)).1
theorem law_goes (KX : K.In s1.heap) (G1 : s1.heap.Ns mainGlobals mg) (G2 : s1.heap.Ns builtinsNs mb) (G3 : ∀ x : Str, x ≠ "__name__" → mb x = bootBuiltins x) (G4 : s1.heap.NoLimit) (G5 : s1.gens = #[])
    (scr : s1.heap.get? a = some { cls := .type "list", data := .seq us.toArray }) (hi : IntsAre us ns) (hl : ns.length ≤ sizeLine) (hr : Room k callerA) (F : ∀ base : Heap, K.In base → base.Ns mainGlobals mg → FnG P w K mg base (L2.CX P w) k fa fd [x] sp)
    (bi : ∀ (st : Shared) (u : Value), BindsTo st fd ⟨[u], []⟩ [(x, u)]) (pr : ∀ H : Hp, Only H → SqL K H a (ns.map V.int) → sp [.ref a] H (fun v _ => v = .bl true) fun _ _ _ => False) :
    codeAny (model P w) callerA (.call (.ref fa) ⟨[.ref a], []⟩) (LawEnd s1) s1 := by
  have rv := vals_ints hi
  have no : ∀ {H : Hp}, (∀ b, H b = none) → Only H := fun h b => .inl (h b)
  cases hk : K.lookup a with
  | some o =>
    have e := KX a o hk
    rw [scr] at e
    cases e
    have lay : SqL K (fun _ => none) a (ns.map V.int) := .inr ⟨_, us.toArray, _, hk, rfl, rfl, rfl, by rw [List.size_toArray, hi.length]; exact hl, by simpa using rv⟩
    exact law_from (H := fun _ => none) KX G1 G2 G3 G4 G5 scr hr F bi (no fun _ => rfl) (pr _ (no fun _ => rfl) lay) (fun _ _ z => by cases z) (fun _ z => absurd rfl z) fun z => absurd rfl z
  | none =>
    obtain ⟨H, eH⟩ : ∃ H : Hp, H = upd (fun _ => none) a (.frz { cls := .type "list", data := .seq us.toArray } (.lst (ns.map V.int))) := ⟨_, rfl⟩
    have at_a : H a = some (.frz { cls := .type "list", data := .seq us.toArray } (.lst (ns.map V.int))) := by rw [eH, upd_same]
    have at_n : ∀ b, b ≠ a → H b = none := fun b nb => by rw [eH, upd_ne nb]
    have on : Only H := fun b => by
      by_cases hb : b = a
      · subst hb; exact .inr ⟨_, _, at_a⟩
      · exact .inl (at_n b hb)
    refine law_from KX G1 G2 G3 G4 G5 scr hr F bi on (pr H on (.inl (.inr ⟨_, at_a⟩))) (fun b u z => ?_) (fun b z => Classical.byContradiction fun nb => z (at_n b nb)) fun _ => hk
    by_cases hb : b = a
    · subst hb
      rw [at_a] at z
      cases z
      exact ⟨scr, by rw [List.length_map]; exact hl, us, _, rv, scr⟩
    · rw [at_n b hb] at z
      cases z
end
end DL

/-! DL10: calls of the program's own defs; a def -/
noncomputable section
namespace DL
open PySem L2 PyProof.Rows
open Evl (Ex)
structure FStp (G : Hp) (w : Pw) (H : Hp) (G' : Hp) (w' : Pw) (H' : Hp) : Prop where
  ex : Ex G G'
  gh : Ex G' H'
  keep : ∀ a o, H a = some o → ¬ POwn w a → H' a = some o ∧ G' a = G a
  own : ∀ a, POwn w' a → POwn w a ∨ H a = none
  dom : ∀ a, H a ≠ none → H' a ≠ none
  pw : ∀ a, POwn w a → POwn w' a
def FRel (K : PySem.W.Frag) (H G' : Hp) (w' : Pw) (H' : Hp) (v : V) : R → Prop
  | .val d => Rp K G' v d
  | .raw u => v = u
  | .ob o => ObRel K G' v o
  | .slot _ => False
  | .new ds => ∃ a xs, v = .ref a ∧ H' a = some (.lst xs) ∧ RpAll K G' xs ds ∧ G' a = none ∧ H a = none ∧ ¬ POwn w' a
def spF (K : PySem.W.Frag) (cl : String → Addr) (F : List R → Pw → FRes) : Sp := fun vs H Q E => ∃ (G : Hp) (rs : List R) (w : Pw), Ex G H ∧ Paired (AR K G) vs rs ∧ PwOk G w H ∧ match F rs w with
  | .ok r w' => ∀ v G' H', FStp G w H G' w' H' → PwOk G' w' H' → FRel K H G' w' H' v r → Q v H'
  | .err x w' => ∀ cls d G' H', FStp G w H G' w' H' → PwOk G' w' H' → XRel K cl x cls d G' → E cls d H'
  | .stuck => False
def fUser (F : List R → Pw → FRes) (fs : M (List R)) : M R := bnd fs fun rs s => match F rs s.w with
  | .ok r w' => .ok r { s with w := w' }
  | .err x w' => .err x { s with w := w' }
  | .stuck => .stuck
section
variable {K : PySem.W.Frag} {G H G' H' : Hp} {s : DSt} {σ : L2.St} {w' : Pw}
theorem call_stp (S : SA K G s σ H) (f : FStp G s.w H G' w' H') (pw : PwOk G' w' H') : Stp G s σ H G' { s with w := w' } σ H' ∧ SA K G' { s with w := w' } σ H' := by
  have own : ∀ i a, OwnAt s σ i a → H a ≠ none ∧ ¬ POwn s.w a := fun i a z => ⟨by obtain ⟨xs, e⟩ := S.ownL z; rw [e]; simp, S.pne i a z⟩
  refine ⟨⟨f.ex, fun a o h n => f.keep a o h fun z => n (.inr z), fun a z => ?_, f.dom, f.pw⟩, ⟨S.len, f.gh, fun i sl h => ?_, S.inj, fun i a z => ?_, pw, fun i a z q => ?_⟩⟩
  · rcases z with z | z
    · exact .inl (.inl z)
    · exact (f.own a z).imp .inr id
  · have q := S.slot i sl h
    cases sl with
    | no => trivial
    | val d => obtain ⟨v, e, hd⟩ := q; exact ⟨v, e, dp_mono f.ex _ _ hd⟩
    | raw v => exact q
    | ob o => obtain ⟨v, e, hd⟩ := q; exact ⟨v, e, ob_mono f.ex hd⟩
    | own es =>
      obtain ⟨a, xs, e, ha, hh⟩ := q
      have e' : σ[i]? = some (some (.ref a)) := by
        cases z : σ[i]? with
        | none => rw [z] at e; cases e
        | some o => rw [z] at e; simp at e; rw [e]
      exact ⟨a, xs, e, (f.keep a _ ha (own i a ⟨⟨es, h⟩, e'⟩).2).1, dps_mono f.ex _ _ hh⟩
  · obtain ⟨xs, e⟩ := S.ownL z
    rw [(f.keep a _ e (own i a z).2).2]
    exact S.ownG i a z
  · rcases f.own a q with q | q
    · exact (own i a z).2 q
    · exact (own i a z).1 q
end
section
variable {X : Cx} {cl : String → Addr} {W : WX} {e : Expr} {es : List Expr} {fs : M (List R)} {pos : Pos}
theorem user_reads {K : PySem.W.Frag} {F : List R → Pw → FRes} {σ : L2.St} {H : Hp} {Q : VK} (q : tD K cl W (fUser F fs) σ H Q) : tCallS (spF K cl F) (WE W) (tAe K cl W fs) σ H Q := by
  obtain ⟨G, s, S, q⟩ := q
  refine ⟨G, s, S, out_mono (out_bind q) fun rs G1 s1 H1 st1 S1 k vs hv => ⟨G1, rs, s1.w, S1.gh, hv, S1.pw, ?_⟩⟩
  cases z : F rs s1.w with
  | ok r w' =>
    rw [z] at k
    intro v G' H' f pw fr
    obtain ⟨st, S'⟩ := call_stp S1 f pw
    refine k G' H' st S' v ?_
    cases r with
    | val d => exact fr
    | raw u => exact fr
    | ob o => exact fr
    | slot i => exact fr.elim
    | new ds =>
      obtain ⟨a, xs, e, ha, hd, hg, h0, hn⟩ := fr
      refine ⟨a, xs, e, ha, hd, hg, Classical.byContradiction fun z => st1.dom a z h0, fun z => ?_⟩
      rcases z with ⟨i, z⟩ | z
      · obtain ⟨ys, e2⟩ := S1.ownL z
        rw [h0] at e2; cases e2
      · exact hn z
  | err x w' =>
    rw [z] at k
    intro cls d G' H' f pw xr
    obtain ⟨st, S'⟩ := call_stp S1 f pw
    exact k cls d G' H' st S' xr
  | stuck => rw [z] at k; exact k
theorem d_user {F : List R → Pw → FRes} {k : Nat} {f : Addr} {fd : FuncData} {ps : List Str} {x : Str} {p : Pos} (hF : FnG X.prog X.w X.K X.mg X.base (L2.CX X.prog X.w) k f fd ps (spF X.K cl F)) (hr : RoomG k X.A) (hg : Gl X x) (hm : X.mg x = some (.ref f)) (hk : PySem.W.keepIn X.K (.ref f) = true) (hb : Binds X.K fd ps [])
    (hx : ∀ σ, PassesAt (L2.CX X.prog X.w) X σ (WE W σ)) (ha : DAe X cl W (e :: es) fs) (hdb : (x == ("__debug__" : Str)) = false := by decide) (he : starEach (e :: es) X.env = (false, eval e X.env) :: starEach es X.env := by rfl) (hpl : (backTo pos (starEach es X.env)).any (·.1) = false := by rfl) :
    DE X cl W (.Call (.Name x p) (e :: es) [] pos) (fUser F fs) := pe_imp (pe_callG hF hr hg hm hk hb hx ha hdb he hpl) fun σ H Q q => user_reads q
theorem passA0 {X : Cx} (σ : L2.St) : PassesAt (L2.CX X.prog X.w) X σ (WE W0 σ) := fun _ _ _ _ _ _ h => by
  obtain ⟨_, _, _, _, _, _, _, _, _, _, _, _, z⟩ := h
  exact z.elim
end
/-! ### a def -/
def toSl : R → Sl
  | .val d => .val d
  | .raw v => .raw v
  | .ob o => .ob o
  | _ => .no
def finR (r : R) (s : DSt) : Option R := match r with
  | .slot i => match s.d[i]? with
    | some (.own ds) => some (.new ds)
    | some (.val d) => some (.val d)
    | _ => none
  | r => some r
def runF (n nps : Nat) (p : DSt → Flow) : List R → Pw → FRes := fun rs w => if rs.length = nps then match p ⟨rs.map toSl ++ List.replicate (n - nps) .no, w⟩ with
  | .next s => .ok (.val .none) s.w
  | .ret r s => match finR r s with
    | some r' => .ok r' s.w
    | none => .stuck
  | .err x s => .err x s.w
  | _ => .stuck
  else .stuck
section
variable {K : PySem.W.Frag} {cl : String → Addr}
theorem pair_len {G : Hp} : ∀ {vs : List V} {rs : List R}, Paired (AR K G) vs rs → vs.length = rs.length
  | _, _, .nil => rfl
  | _, _, .cons _ t => by simp [pair_len t]
theorem pair_get {G : Hp} : ∀ {vs : List V} {rs : List R} {i : Nat} {r : R}, Paired (AR K G) vs rs → rs[i]? = some r → ∃ v, vs[i]? = some v ∧ AR K G v r
  | _, _, _, _, .nil, e => by simp at e
  | _, _, 0, r, .cons h t, e => by simp at e; subst e; exact ⟨_, rfl, h⟩
  | _, _, i + 1, r, .cons h t, e => by simpa using pair_get (i := i) t (by simpa using e)
theorem start_sa {G H : Hp} {N : List Str} {vs : List V} {rs : List R} {w : Pw} {nps : Nat} (gh : Ex G H) (hv : Paired (AR K G) vs rs) (pw : PwOk G w H) (hn : rs.length = nps) (hN : nps ≤ N.length) : SA K G ⟨rs.map toSl ++ List.replicate (N.length - nps) .no, w⟩ (L2.start N vs) H := by
  have hl := pair_len hv
  have no : ∀ (i : Nat) ds, (rs.map toSl ++ List.replicate (N.length - nps) Sl.no)[i]? ≠ some (.own ds) := by
    intro i ds e
    rw [List.getElem?_append] at e
    split at e
    · rw [List.getElem?_map] at e
      cases q : rs[i]? with
      | none => rw [q] at e; cases e
      | some r => rw [q] at e; cases r <;> cases e
    · rw [List.getElem?_replicate] at e
      split at e <;> cases e
  refine ⟨by simp [L2.start, hl]; omega, gh, fun i sl h => ?_, fun i j a h _ => ?_, fun i a h => ?_, pw, fun i a h => ?_⟩
  · cases sl with
    | no => trivial
    | own ds => exact (no i ds h).elim
    | val d =>
      simp only [List.getElem?_append] at h
      split at h
      · rename_i hi
        rw [List.getElem?_map] at h
        cases q : rs[i]? with
        | none => rw [q] at h; cases h
        | some r =>
          rw [q] at h
          obtain ⟨v, e, ar⟩ := pair_get hv q
          have hi' : i < (vs.map some).length := by simp at hi ⊢; omega
          cases r with
          | val d' =>
            cases h
            refine ⟨v, ?_, ar⟩
            simp only [L2.start, List.getElem?_append, hi', if_true, List.getElem?_map, e]
            rfl
          | raw u => cases h
          | ob u => cases h
          | new u => cases h
          | slot u => cases h
      · rw [List.getElem?_replicate] at h
        split at h <;> cases h
    | ob d =>
      simp only [List.getElem?_append] at h
      split at h
      · rename_i hi
        rw [List.getElem?_map] at h
        cases q : rs[i]? with
        | none => rw [q] at h; cases h
        | some r =>
          rw [q] at h
          obtain ⟨v, e, ar⟩ := pair_get hv q
          have hi' : i < (vs.map some).length := by simp at hi ⊢; omega
          cases r with
          | ob d' =>
            cases h
            refine ⟨v, ?_, ar⟩
            simp only [L2.start, List.getElem?_append, hi', if_true, List.getElem?_map, e]
            rfl
          | raw u => cases h
          | val u => cases h
          | new u => cases h
          | slot u => cases h
      · rw [List.getElem?_replicate] at h
        split at h <;> cases h
    | raw u =>
      simp only [List.getElem?_append] at h
      split at h
      · rename_i hi
        rw [List.getElem?_map] at h
        cases q : rs[i]? with
        | none => rw [q] at h; cases h
        | some r =>
          rw [q] at h
          obtain ⟨v, e, ar⟩ := pair_get hv q
          have hi' : i < (vs.map some).length := by simp at hi ⊢; omega
          cases r with
          | raw u' =>
            cases h
            have ar : v = _ := ar
            subst ar
            show (L2.start N vs)[i]?.join = _
            simp only [L2.start, List.getElem?_append, hi', if_true, List.getElem?_map, e]
            rfl
          | val u => cases h
          | ob u => cases h
          | new u => cases h
          | slot u => cases h
      · rw [List.getElem?_replicate] at h
        split at h <;> cases h
  · obtain ⟨⟨ds, e⟩, _⟩ := h; exact (no i ds e).elim
  · obtain ⟨⟨ds, e⟩, _⟩ := h; exact (no i ds e).elim
  · obtain ⟨⟨ds, e⟩, _⟩ := h; exact (no i ds e).elim
theorem start_own {rs : List R} {n : Nat} {w : Pw} {σ : L2.St} {a : Addr} (h : Own ⟨rs.map toSl ++ List.replicate n .no, w⟩ σ a) : POwn w a := by
  rcases h with ⟨i, ⟨ds, e⟩, _⟩ | h
  · exfalso
    simp only [List.getElem?_append] at e
    split at e
    · rw [List.getElem?_map] at e
      cases q : rs[i]? with
      | none => rw [q] at e; cases e
      | some r => rw [q] at e; cases r <;> cases e
    · rw [List.getElem?_replicate] at e
      split at e <;> cases e
  · exact h
theorem fstp_of {G H G' H' : Hp} {rs : List R} {n : Nat} {w : Pw} {σ σ' : L2.St} {s' : DSt} (st : Stp G ⟨rs.map toSl ++ List.replicate n .no, w⟩ σ H G' s' σ' H') (S' : SA K G' s' σ' H') : FStp G w H G' s'.w H' :=
  ⟨st.ex, S'.gh, fun a o h nw => st.keep a o h fun z => nw (start_own z), fun a z => (st.own a (.inr z)).imp start_own id, st.dom, st.pw⟩
theorem def_ok {P : Program} {w : World} {mg : Str → Option Value} {base : Heap} {x qual : Str} {st : Stmt} {f : Addr} {fd : FuncData} {N ps : List Str} {k : Nat} {p : DSt → Flow} (F : Fun K x qual st f fd) (S : FnScope N ps (defScope st)) (hN : ps.length ≤ N.length)
    (hb : ∀ (cdv : Value) (A : Around) (outer : List Env) (s : Shared) (H : Hp) (E : XK), RoomG k (A.deeper (envOfC qual (defScope st) s.heap.objs.size f cdv)) →
      DSs (cxOf (L2.CX P w) P w K mg base N qual (defScope st) f cdv A outer s H E) cl (fun cls d _ H => E cls d H) (defBody st) p) : FnG P w K mg base (L2.CX P w) (k + 1) f fd ps (spF K cl (runF N.length ps.length p)) := by
  have hlen : ∀ {rs : List R} {w : Pw}, (match runF N.length ps.length p rs w with | .stuck => False | _ => True) → rs.length = ps.length := by
    intro rs w h
    unfold runF at h
    split at h
    · exact h.elim
    · rename_i z
      by_cases q : rs.length = ps.length
      · exact q
      · rw [if_neg q] at z; exact absurd rfl z
  refine okG F S (fun vs H Q E h => ?_) fun cdv A outer s H vs Q E hr h => ⟨_, hb cdv A outer s H E hr, ?_⟩
  · obtain ⟨G, rs, w, gh, hv, pw, k⟩ := h
    rw [pair_len hv]
    refine hlen (w := w) ?_
    cases z : runF N.length ps.length p rs w with
    | ok r w' => trivial
    | err x w' => trivial
    | stuck => rw [z] at k; exact k
  · obtain ⟨G, rs, w, gh, hv, pw, k⟩ := h
    have hn : rs.length = ps.length := by
      refine hlen (w := w) ?_
      cases z : runF N.length ps.length p rs w with
      | ok r w' => trivial
      | err x w' => trivial
      | stuck => rw [z] at k; exact k
    refine ⟨G, ⟨rs.map toSl ++ List.replicate (N.length - ps.length) .no, w⟩, show SA K G _ (L2.start N vs) H from start_sa gh hv pw hn hN, ?_⟩
    unfold runF at k
    rw [if_pos hn] at k
    cases z : p ⟨rs.map toSl ++ List.replicate (N.length - ps.length) .no, w⟩ with
    | next s' => rw [z] at k; exact fun G' σ' H' st S' => k .non G' H' (fstp_of st S') S'.pw .non
    | brk s' => rw [z] at k; exact k.elim
    | cnt s' => rw [z] at k; exact k.elim
    | stuck => rw [z] at k; exact k.elim
    | err x s' => rw [z] at k; exact fun cls d G' σ' H' st S' xr => k cls d G' H' (fstp_of st S') S'.pw xr
    | ret r s' =>
      rw [z] at k
      intro v G' σ' H' st S' rr
      cases r with
      | val d => exact k v G' H' (fstp_of st S') S'.pw rr
      | raw u => exact k v G' H' (fstp_of st S') S'.pw rr
      | ob o => exact k v G' H' (fstp_of st S') S'.pw rr
      | new ds =>
        refine k v G' H' (fstp_of st S') S'.pw ?_
        obtain ⟨a, xs, e, ha, hd, hg, h0, hn⟩ := rr
        exact ⟨a, xs, e, ha, hd, hg, h0, fun z => hn (.inr z)⟩
      | slot i =>
        have rr : σ'[i]? = some (some v) := rr
        dsimp only [finR] at k
        cases q : s'.d[i]? with
        | none => rw [q] at k; exact k.elim
        | some sl =>
          rw [q] at k
          cases sl with
          | no => exact k.elim
          | raw u => exact k.elim
          | ob o => exact k.elim
          | val d =>
            refine k v G' H' (fstp_of st S') S'.pw ?_
            obtain ⟨u, e, hd⟩ := S'.slot i _ q
            rw [rr] at e
            cases e
            exact hd
          | own ds =>
            refine k v G' H' (fstp_of st S') S'.pw ?_
            obtain ⟨a, xs, e, ha, hd⟩ := S'.slot i _ q
            rw [rr] at e
            cases e
            have ho : OwnAt s' σ' i a := ⟨⟨ds, q⟩, rr⟩
            refine ⟨a, xs, rfl, ha, hd, S'.ownG i a ho, ?_, S'.pne i a ho⟩
            rcases st.own a (.inl ⟨i, ho⟩) with z | z
            · have z := start_own z
              exact absurd (st.pw a z) (S'.pne i a ho)
            · exact z
end
end DL

/-! DL11: methods of lists, isinstance, small statements -/
noncomputable section
namespace DL
open PySem L2 PyProof.Rows
open Evl (Ex)
section
variable {K : PySem.W.Frag} {G H : Hp} {s : DSt} {σ : L2.St}
theorem own_write {i : Nat} {ds ds' : List PyData} {a : Addr} {xs' : List V} (S : SA K G s σ H) (h : s.d[i]? = some (.own ds)) (e : σ[i]? = some (some (.ref a))) (hd : RpAll K G xs' ds') :
    Stp G s σ H G (putS i (.own ds') s) σ (upd H a (.lst xs')) ∧ SA K G (putS i (.own ds') s) σ (upd H a (.lst xs')) := by
  have il : i < s.d.length := (List.getElem?_eq_some_iff.mp h).1
  have ho : OwnAt s σ i a := ⟨⟨ds, h⟩, e⟩
  have hg := S.ownG i a ho
  have od : ∀ j b, OwnAt (putS i (.own ds') s) σ j b → OwnAt s σ j b := by
    rintro j b ⟨⟨es, q⟩, z⟩
    by_cases w : j = i
    · subst w; exact ⟨⟨ds, h⟩, z⟩
    · simp only [putS, List.getElem?_set_ne (Ne.symm w)] at q; exact ⟨⟨es, q⟩, z⟩
  have ow : ∀ b, Own (putS i (.own ds') s) σ b → Own s σ b := fun b z => z.imp (fun ⟨j, z⟩ => ⟨j, od j b z⟩) id
  refine ⟨⟨Ex.refl G, fun b o hb nb => ⟨?_, rfl⟩, fun b z => .inl (ow b z), fun b hb => ?_, fun _ z => z⟩, ⟨by simp [putS, S.len], fun b u hb => ?_, fun j sl hj => ?_, fun j k b h1 h2 => S.inj j k b (od j b h1) (od k b h2), fun j b z => S.ownG j b (od j b z), ?_, fun j b z => S.pne j b (od j b z)⟩⟩
  · rw [upd_ne fun z => nb (by subst z; exact .inl ⟨i, ho⟩)]; exact hb
  · by_cases z : b = a
    · subst z; rw [upd_same]; simp
    · rw [upd_ne z]; exact hb
  · rw [upd_ne fun z => by subst z; rw [hg] at hb; cases hb]; exact S.gh b u hb
  · by_cases w : j = i
    · subst w
      simp only [putS, List.getElem?_set_self il] at hj
      cases hj
      exact ⟨a, xs', by rw [e] <;> rfl, upd_same, hd⟩
    · simp only [putS, List.getElem?_set_ne (Ne.symm w)] at hj
      have q := S.slot j sl hj
      cases sl with
      | no => trivial
      | val d => exact q
      | raw v => exact q
      | ob o => exact q
      | own es =>
        obtain ⟨b, ys, e2, hb, hh⟩ := q
        refine ⟨b, ys, e2, ?_, hh⟩
        have e3 : σ[j]? = some (some (.ref b)) := by
          cases z : σ[j]? with
          | none => rw [z] at e2; cases e2
          | some o => rw [z] at e2; simp at e2; rw [e2]
        rw [upd_ne fun z => w (by subst z; exact S.inj j i b ⟨⟨es, hj⟩, e3⟩ ho)]
        exact hb
  · obtain ⟨ys, hy⟩ := S.ownL ho
    exact pwok_to S.pw (fun b o h z => by rw [upd_ne fun q => S.pne i a ho (by subst q; exact z)]; exact h) (fun b φ h => by rw [upd_ne fun q => by subst q; rw [hy] at h; cases h]; exact h) fun b z => G_pown S.pw z
theorem own_at {i : Nat} {ds : List PyData} (S : SA K G s σ H) (h : s.d[i]? = some (.own ds)) : ∃ a xs, σ[i]? = some (some (.ref a)) ∧ H a = some (.lst xs) ∧ RpAll K G xs ds := by
  obtain ⟨a, xs, e, ha, hd⟩ := S.slot i _ h
  refine ⟨a, xs, ?_, ha, hd⟩
  cases z : σ[i]? with
  | none => rw [z] at e; cases e
  | some o => rw [z] at e; simp at e; rw [e]
end
theorem intsAre_vals' : ∀ {ns : List Int} {us : List Value}, Vals (ns.map V.int) us → PyProof.Rows.IntsAre us ns
  | [], _, .nil => .nil
  | n :: ns, _, .cons r t => by
    obtain ⟨k, rfl⟩ := r
    exact .cons n k (intsAre_vals' t)
def isOwn (i : Nat) (s : DSt) : Bool := match s.d[i]? with
  | some (.own _) => true
  | _ => false
def fApp (i : Nat) (f : M R) : M R := fun s => if isOwn i s then bnd f (fun r => bnd (fEsc r) fun r' s' => match r', s'.d[i]? with
    | .val d, some (.own ds) => if ltS (ds.length) then .ok (.val .none) (putS i (.own (ds ++ [d])) s') else .stuck
    | _, _ => .stuck) s
  else .stuck
theorem isOwn_get {i : Nat} {s : DSt} (h : isOwn i s = true) : ∃ ds, s.d[i]? = some (.own ds) := by
  unfold isOwn at h
  split at h
  · exact ⟨_, by assumption⟩
  · cases h
section
variable {X : Cx} {cl : String → Addr} {W : WX} {e a b c : Expr} {es : List Expr} {f g : M R} {fs : M (List R)} {pos : Pos} {p q : DSt → Flow}
theorem d_append {i : Nat} {x : Expr} {ap cp : Pos} (hx : PE X x (tVar i)) (ha : DE X cl W e f) (hbase : attributeBase x "append" X.env (eval x X.env) = eval x X.env := by rfl)
    (hfew : ((backTo cp (starEach [e] X.env)).all (fun x => !x.1) && (backToKw cp (keywordEach [] X.env)).all (fun x => x.1.isSome) && decide (([e] : List Expr).length + ([] : List Keyword).length + (if ([] : List Keyword).isEmpty then 0 else 1) < 30)) = true := by rfl)
    (hline : (ap.endLine == cp.line) = true := by rfl) (hs : starEach [e] X.env = (false, eval e X.env) :: starEach [] X.env := by rfl) (hplain : (backTo cp (starEach [] X.env)).any (·.1) = false := by rfl) :
    DE X cl W (.Call (.Attribute x "append" ap) [e] [] cp) (fApp i f) := by
  refine pe_imp (pe_bm PySem.F.plainAttrs_list PySem.F.slot_list_append PySem.F.type_list_append mt_append hx (pa_cons ha pa_nil hs) hbase hfew hline hs hplain) fun σ H Q ⟨G, s, S, q⟩ => ?_
  unfold fApp at q
  split at q
  rotate_left
  · exact q.elim
  rename_i ho
  obtain ⟨ds0, h0⟩ := isOwn_get ho
  obtain ⟨l, xs0, el, hl0, _⟩ := own_at S h0
  refine ⟨.ref l, el, .inl ⟨rfl, _, .of hl0⟩, G, s, S, ?_⟩
  refine out_mono (out_esc q) fun r G1 s1 H1 st1 S1 k v rr => ?_
  obtain ⟨G2, s2, r2, st2, S2, ar, ex, k2⟩ := k v rr
  split at k2
  · rename_i d ds h2
    split at k2
    · rename_i hz
      obtain ⟨l2, xs, el2, hl2, hd2⟩ := own_at S2 h2
      rw [el] at el2
      cases el2
      obtain ⟨st3, S3⟩ := own_write S2 h2 el (dps_app hd2 (.cons ar .nil))
      exact ⟨l, xs, v, rfl, rfl, hl2, by rw [dps_len hd2]; exact hz, k2 _ _ st3 S3 _ .non⟩
    · exact k2.elim
  · exact k2.elim
def fPop (i : Nat) : M R := fun s => match s.d[i]? with
  | some (.own ds) => match ds[ds.length - 1]? with
    | some d => .ok (.val d) (putS i (.own ds.dropLast) s)
    | none => .stuck
  | _ => .stuck
def fPopAt (i : Nat) (f : M R) : M R := fun s => if isOwn i s then bnd f (fun r s' => match look r s', s'.d[i]? with
    | some (.int k), some (.own ds) => match ixN ds.length k with
      | some j => match ds[j]? with
        | some d => if inW k then .ok (.val d) (putS i (.own (ds.eraseIdx j)) s') else .stuck
        | none => .stuck
      | none => .stuck
    | _, _ => .stuck) s
  else .stuck
def fIns (i : Nat) (fs : M (List R)) : M R := fun s => if isOwn i s then bnd fs (fun rs s' => match rs, s'.d[i]? with
    | [.val (.int k), .val d], some (.own ds) => if 0 ≤ k ∧ inW k ∧ ltS (ds.length) then .ok (.val .none) (putS i (.own (ds.take k.toNat ++ [d] ++ ds.drop k.toNat)) s') else .stuck
    | _, _ => .stuck) s
  else .stuck
theorem d_insert {i : Nat} {x : Expr} {ap cp : Pos} (hx : PE X x (tVar i)) (ha : DAe X cl W (a :: [b]) fs) (hbase : attributeBase x "insert" X.env (eval x X.env) = eval x X.env := by rfl)
    (hfew : ((backTo cp (starEach [a, b] X.env)).all (fun x => !x.1) && (backToKw cp (keywordEach [] X.env)).all (fun x => x.1.isSome) && decide (([a, b] : List Expr).length + ([] : List Keyword).length + (if ([] : List Keyword).isEmpty then 0 else 1) < 30)) = true := by rfl)
    (hline : (ap.endLine == cp.line) = true := by rfl) (hs : starEach [a, b] X.env = (false, eval a X.env) :: starEach [b] X.env := by rfl) (hplain : (backTo cp (starEach [b] X.env)).any (·.1) = false := by rfl) :
    DE X cl W (.Call (.Attribute x "insert" ap) [a, b] [] cp) (fIns i fs) := by
  refine pe_imp (pe_bm PySem.F.plainAttrs_list PySem.F.slot_list_insert PySem.F.type_list_insert mt_insert hx ha hbase hfew hline hs hplain) fun σ H Q ⟨G, s, S, q⟩ => ?_
  unfold fIns at q
  split at q
  rotate_left
  · exact q.elim
  rename_i ho
  obtain ⟨ds0, h0⟩ := isOwn_get ho
  obtain ⟨l, xs0, el, hl0, _⟩ := own_at S h0
  refine ⟨.ref l, el, .inl ⟨rfl, _, .of hl0⟩, G, s, S, ?_⟩
  refine out_mono (out_bind q) fun rs G1 s1 H1 st1 S1 k vs hv => ?_
  split at k
  · rename_i n d ds h1
    split at k
    · rename_i hb
      cases hv with
      | cons r1 r2 =>
        cases r2 with
        | cons r2 r3 =>
          cases r3
          cases (show Rp X.K G1 _ (.int n) from r1)
          obtain ⟨l2, xs, el2, hl2, hd2⟩ := own_at S1 h1
          rw [el] at el2
          cases el2
          obtain ⟨st3, S3⟩ := own_write S1 h1 el (dps_app (dps_app (dps_take n.toNat hd2) (.cons r2 .nil)) (dps_drop n.toNat hd2))
          exact ⟨l, xs, n, _, rfl, rfl, hl2, by rw [dps_len hd2]; exact hb.2.2, hb.1, hb.2.1.2, k _ _ st3 S3 _ .non⟩
    · exact k.elim
  · exact k.elim
def fRem (i : Nat) (f : M R) : M R := fun s => if isOwn i s then bnd f (fun r s' => match look r s', s'.d[i]? with
    | some (.int k), some (.own ds) => match intsD ds with
      | some ns => match ns.findIdx? (· == k) with
        | some j => .ok (.val .none) (putS i (.own ((ns.eraseIdx j).map .int)) s')
        | none => .stuck
      | none => .stuck
    | _, _ => .stuck) s
  else .stuck
def fClear (i : Nat) : M R := fun s => match s.d[i]? with
  | some (.own ds) => .ok (.val .none) (putS i (.own []) s)
  | _ => .stuck
theorem d_clear {i : Nat} {x : Expr} {ap cp : Pos} (hx : PE X x (tVar i)) (hbase : attributeBase x "clear" X.env (eval x X.env) = eval x X.env := by rfl) (hline : (ap.endLine == cp.line) = true := by rfl) : DE X cl W (.Call (.Attribute x "clear" ap) [] [] cp) (fClear i) := by
  refine pe_imp (pe_bm0 PySem.F.plainAttrs_list PySem.F.slot_list_clear PySem.F.type_list_clear mt_clear hx hbase hline) fun σ H Q ⟨G, s, S, q⟩ => ?_
  unfold fClear at q
  split at q
  · rename_i ds h0
    obtain ⟨l, xs, el, hl0, hd⟩ := own_at S h0
    obtain ⟨st, S'⟩ := own_write S h0 el (.nil)
    exact ⟨.ref l, el, .inl ⟨rfl, _, .of hl0⟩, l, xs, rfl, rfl, hl0, q _ _ st S' _ .non⟩
  · exact q.elim
def flatD : PyData → Bool
  | .none | .bool _ | .int _ | .str _ => true
  | _ => false
def idxO (ds : List PyData) (d : PyData) : Option Nat := if ds.all flatD && flatD d then ds.findIdx? (fun z => PyData.eqv z d) else none
def isLst (x : R) (s : DSt) : Bool := match look x s with
  | some (.list _) => true
  | _ => false
def fIndex (g f : M R) : M R := bnd g fun x s => if isLst x s then bnd f (fun r s => match look x s, look r s with
  | some (.list ds), some d => match idxO ds d with
    | some j => .ok (.val (.int (j : Nat))) s
    | none => .stuck
  | _, _ => .stuck) s
  else .stuck
def tyN : PyData → String
  | .none => "NoneType" | .bool _ => "bool" | .int _ => "int" | .str _ => "str" | .list _ => "list" | .tuple _ => "tuple" | .dict _ => "dict"
theorem ty_of {K : PySem.W.Frag} {G H : Hp} {v : V} {d : PyData} (x : Ex G H) (h : Dq K G H v d) : TyX K H v (.type (tyN d)) := by
  cases d with
  | none => cases (show Rp K G v .none from h); exact .base .non
  | bool b => obtain rfl := dq_bl h; exact .base (.bl b)
  | int b => obtain rfl := dq_int h; exact .base (.int b)
  | str b => obtain rfl := dq_str h; exact .base (.str b)
  | list ds => obtain ⟨p, xs, rfl, hp, _⟩ := dq_lst h; exact .base (.lst hp)
  | tuple ds =>
    obtain ⟨p, xs, rfl, hp, _⟩ := dq_tup x h
    rcases hp with (hp | ⟨o, hp⟩) | ⟨o, its, n, hk, hc, _⟩
    · exact .base (.tup hp)
    · exact .fTuple hp
    · exact .kTuple hk hc
  | dict kvs => cases (show Rp K G v (.dict kvs) from h)
def isN (n a : String) : Bool := n == a || (n == "int" && a == "bool")
def isT (n : String) (d : PyData) : Bool := isN n (tyN d)
def knownT (n : String) : Bool := ["int", "bool", "str", "list", "tuple"].contains n
theorem kit_tab : ∀ n ∈ ["int", "bool", "str", "list", "tuple"], ∀ a ∈ ["NoneType", "bool", "int", "str", "list", "tuple", "dict"], kitB a n = some (isN n a) := by decide +kernel
theorem kit_is {n : String} {d : PyData} (hn : knownT n = true) : kitB (tyN d) n = some (isT n d) :=
  kit_tab n (by simpa [knownT] using hn) _ (by cases d <;> simp [tyN])
def fIsi (n : String) (f : M R) : M R := bnd f fun r s => match look r s with
  | some d => .ok (.val (.bool (isT n d))) s
  | none => .stuck
theorem d_isi {n : Str} {m : String} {p p2 pos : Pos} (hn : knownT m = true) (hg : Gl X "isinstance") (hm : X.mg "isinstance" = none) (ha : DE X cl W e f) (hc : PE X (.Name n p2) (tC (.ty m)))
    (he : starEach (e :: [.Name n p2]) X.env = (false, eval e X.env) :: starEach [.Name n p2] X.env := by rfl) (he2 : starEach [.Name n p2] X.env = (false, eval (.Name n p2) X.env) :: starEach [] X.env := by rfl) (hpl : (backTo pos (starEach [.Name n p2] X.env)).any (·.1) = false := by rfl) :
    DE X cl W (.Call (.Name "isinstance" p) [e, .Name n p2] [] pos) (fIsi m f) := by
  refine pe_imp (pe_callB call_isi hg hm (by decide +kernel) (pa_cons ha (pa_cons hc pa_nil he2) he) (by decide) (by decide) he hpl) fun σ H Q ⟨G, s, S, q⟩ => ?_
  refine ⟨G, s, S, out_mono (out_bind q) fun x G1 s1 H1 st1 S1 k v rr => ?_⟩
  split at k
  · rename_i d e
    exact ⟨v, .ty m, .type (tyN d), .type m, isT m d, rfl, .ty m, ty_of S1.gh (look_q S1 rr e), kit_ty (kit_is hn), k G1 H1 Stp.refl S1 _ (.bl _)⟩
  · exact k.elim
def nubI (ns : List Int) : List Int := PyProof.Rows.firstMet (fun i => ns.getD i 0) ns.length
def fLenSet (f : M R) : M R := bnd f fun r s => match look r s with
  | some (.list ds) => match intsD ds with
    | some ns => if ns.length ≤ 4000 then .ok (.val (.int (nubI ns).length)) s else .stuck
    | none => .stuck
  | _ => .stuck
theorem d_lenSet {p p2 q pos : Pos} (hcalm : X.calm = true) (hg : Gl X "len") (hm : X.mg "len" = none) (hg2 : Gl X "set") (hm2 : X.mg "set" = none) (ha : DE X cl W a f)
    (na : starEach [a] X.env = (false, eval a X.env) :: starEach [] X.env := by rfl) : DE X cl W (.Call (.Name "len" p) [.Call (.Name "set" p2) [a] [] q] [] pos) (fLenSet f) := by
  refine ⟨fun pins s σ H Q I ⟨G, st, S, h⟩ => ?_⟩
  have hc : X.A.handled = none := I.ok.hd hcalm
  refine Call_ (ld_blt I hg hm boot_len ?_)
  refine PyProof.Rows.callWith_builtin1 (PyProof.Rows.args_cons ?_ rfl) rfl rfl
  refine Call_ (ld_blt I hg2 hm2 boot_set ?_)
  have h1 : tD X.K cl W f σ H fun v H1 => ∃ (l : Addr) (ns : List Int), v = .ref l ∧ SqL X.K H1 l (ns.map V.int) ∧ ns.length ≤ 4000 ∧ Q (.int (nubI ns).length) H1 := by
    refine ⟨G, st, S, out_mono (out_bind h) fun x G1 s1 H1 st1 S1 k v rr => ?_⟩
    split at k
    · rename_i ds e1
      split at k
      · rename_i ns en
        split at k
        · rename_i hl
          obtain ⟨l, xs, rfl, hp, hd⟩ := dq_lst (look_q S1 rr e1)
          have ex := ints_rp hd en
          subst ex
          exact ⟨l, ns, rfl, .of hp, hl, k G1 H1 Stp.refl S1 _ (.int _)⟩
        · exact k.elim
      · exact k.elim
    · exact k.elim
  refine PyProof.Rows.callWith_type1 (PyProof.Rows.args_cons (thn (ha.run pins s σ H _ I h1) fun v s1 ⟨x, H1, I1, r1, q1⟩ => PyProof.Rows.args_nil ?_) na) na rfl
  obtain ⟨l, ns, rfl, hq, hl, q1⟩ := q1
  cases r1
  obtain ⟨its, r, pl, hz⟩ := I1.list hq
  have hlen : its.toArray.size = ns.length := by rw [List.size_toArray, ← r.length, List.length_map]
  refine call_set_list hc pl.isList (by simpa using intsAre_vals' r) (by rw [hlen]; unfold scanBound; omega) fun h' tk hS hk => ?_
  refine PyProof.Rows.args_nil ?_
  rw [hlen] at hS
  obtain ⟨o, es, ep, t, ho, hex, hd, _, _, _, hf, hn⟩ := hS
  have I2 : Inv X pins σ H1 { s1 with heap := h', toks := tk } := I1.kept fun b o e => hk b o (Heap.lt_size e) e
  have hnl : (nubI ns).length ≤ ns.length := PyProof.Rows.firstMet_length_le _ _
  exact call_len_set ho hex hd hf (by rw [hn]; unfold nubI at hnl; omega) ⟨.int (nubI ns).length, H1, I2.tok _, ⟨_, by rw [hn] <;> rfl⟩, q1⟩
end
end DL

/-! DL12: more statements; a def by its name -/
noncomputable section
namespace DL
open PySem L2 PyProof.Rows
open Evl (Ex)
def Cal (P : Program) (w : World) (K : PySem.W.Frag) (mg : Str → Option Value) (base : Heap) (cl : String → Addr) (x : Str) (k : Nat) (ps : List Str) (F : List R → Pw → FRes) : Prop :=
  ∃ (f : Addr) (fd : FuncData), FnG P w K mg base (L2.CX P w) k f fd ps (spF K cl F) ∧ mg x = some (.ref f) ∧ PySem.W.keepIn K (.ref f) = true ∧ Binds K fd ps []
def Wr (K : PySem.W.Frag) (mg : Str → Option Value) (x : Str) (st : Stmt) (ps : List Str) : Prop := ∃ (f : Addr) (fd : FuncData), Fun K x x st f fd ∧ mg x = some (.ref f) ∧ Binds K fd ps []
theorem cal_of {P : Program} {w : World} {K : PySem.W.Frag} {mg : Str → Option Value} {base : Heap} {cl : String → Addr} {x : Str} {k : Nat} {N ps : List Str} {st : Stmt} {p : DSt → Flow} (h : Wr K mg x st ps) (S : FnScope N ps (defScope st)) (hN : ps.length ≤ N.length)
    (hb : ∀ (f : Addr) (cdv : Value) (A : Around) (outer : List Env) (s : Shared) (H : Hp) (E : XK), RoomG k (A.deeper (envOfC x (defScope st) s.heap.objs.size f cdv)) →
      DSs (cxOf (L2.CX P w) P w K mg base N x (defScope st) f cdv A outer s H E) cl (fun cls d _ H => E cls d H) (defBody st) p) : Cal P w K mg base cl x (k + 1) ps (runF N.length ps.length p) := by
  obtain ⟨f, fd, F, g, b⟩ := h
  exact ⟨f, fd, def_ok F S hN fun cdv A outer s H E hr => hb f cdv A outer s H E hr, g, F.kp, b⟩
section
variable {X : Cx} {cl : String → Addr} {W : WX} {e a b c : Expr} {es : List Expr} {f g : M R} {fs : M (List R)} {pos : Pos} {p q : DSt → Flow}
theorem d_cal {F : List R → Pw → FRes} {k : Nat} {ps : List Str} {x : Str} {p : Pos} (h : Cal X.prog X.w X.K X.mg X.base cl x k ps F) (hr : RoomG k X.A) (hx : ∀ σ, PassesAt (L2.CX X.prog X.w) X σ (WE W σ)) (ha : DAe X cl W (e :: es) fs) (hg : Gl X x := by rfl) (hdb : (x == ("__debug__" : Str)) = false := by decide)
    (he : starEach (e :: es) X.env = (false, eval e X.env) :: starEach es X.env := by rfl) (hpl : (backTo pos (starEach es X.env)).any (·.1) = false := by rfl) : DE X cl W (.Call (.Name x p) (e :: es) [] pos) (fUser F fs) := by
  obtain ⟨f, fd, ok, g, kp, b⟩ := h
  exact d_user ok hr hg g kp b hx ha hdb he hpl
def fAug (i : Nat) (o : Int → Int → Int) (f : M R) : DSt → Flow := fun s => match s.d[i]? with
  | some (.val (.int a)) => onRes (f s) fun r s' => match look r s' with
    | some (.int b) => if i < s'.d.length then .next (putS i (.val (.int (o a b))) s') else .stuck
    | _ => .stuck
  | _ => .stuck
def fSetIx (i : Nat) (f g : M R) : DSt → Flow := fun s => onRes (bnd f fEsc s) fun r s1 => if isOwn i s1 then onRes (g s1) fun k s2 => match r, look k s2, s2.d[i]? with
    | .val d, some (.int n), some (.own ds) => match ixN ds.length n with
      | some j => .next (putS i (.own (ds.set j d)) s2)
      | none => .stuck
    | _, _, _ => .stuck
  else .stuck
def fPar (i j : Nat) (fs : M (List R)) : DSt → Flow := fun s => onRes (fs s) fun rs s' => match rs with
  | [r1, r2] => if i < s'.d.length ∧ j < s'.d.length then .next (putS j (toSl r2) (putS i (toSl r1) s')) else .stuck
  | _ => .stuck
def bSeq (n : Nat) (bs : Bds) : Bd := fun d s => match d with
  | .tuple ds => if ds.length = n then bs ds s else none
  | .list ds => if ds.length = n then bs ds s else none
  | _ => none
end
end DL

/-! DL13: the purse: a list of a list of ints and an int, changed by the def that draws -/
noncomputable section
namespace DL
open PySem L2 PyProof.Rows
open Evl (Ex)
section
variable {K : PySem.W.Frag} {G H : Hp} {s : DSt} {σ : L2.St} {pa ca : Addr} {cells : List Int} {t : Int}
theorem pwA_ne (h : pa ≠ ca) : pwA pa ca cells t = [.ref ca, .int t] := if_neg h
theorem pwA_eq : pwA ca ca cells t = cells.map .int := if_pos rfl
theorem pw_get (S : SA K G s σ H) (e : s.w = some (pa, ca, cells, t)) : True ∧ H pa = some (.lst (pwA pa ca cells t)) ∧ H ca = some (.lst (cells.map .int)) ∧ G pa = none ∧ G ca = none := by
  have q := S.pw.1
  unfold PwOk0 at q
  rw [e] at q
  exact q
theorem pw_write {H' : Hp} {cells' : List Int} {t' : Int} (S : SA K G s σ H) (e : s.w = some (pa, ca, cells, t)) (h : ∀ a, a ≠ pa → a ≠ ca → H' a = H a) (h1 : H' pa = some (.lst (pwA pa ca cells' t'))) (h2 : H' ca = some (.lst (cells'.map .int))) :
    Stp G s σ H G { s with w := some (pa, ca, cells', t') } σ H' ∧ SA K G { s with w := some (pa, ca, cells', t') } σ H' := by
  obtain ⟨q1, q2, q3, q4, q5⟩ := pw_get S e
  have po : ∀ a, POwn s.w a ↔ ((a = pa ∨ a = ca) ∨ TOwn a) := fun a => by unfold POwn POwn0; rw [e] <;> exact Iff.rfl
  have tp : ∀ a, TOwn a → a ≠ pa ∧ a ≠ ca := fun a z => by
    obtain ⟨ps, hp⟩ := S.pw.2.h z
    exact ⟨fun q => (by subst q; rw [q2] at hp; cases hp), fun q => (by subst q; rw [q3] at hp; cases hp)⟩
  have np : ∀ i a, OwnAt s σ i a → a ≠ pa ∧ a ≠ ca := fun i a z => ⟨fun w => S.pne i a z ((po a).mpr (.inl (.inl w))), fun w => S.pne i a z ((po a).mpr (.inl (.inr w)))⟩
  refine ⟨⟨Ex.refl G, fun a o hb nb => ⟨?_, rfl⟩, fun a z => .inl ?_, fun a hb => ?_, fun a z => ?_⟩, ⟨S.len, fun a u hb => ?_, fun i sl hi => ?_, S.inj, S.ownG, ⟨⟨trivial, h1, h2, q4, q5⟩, S.pw.2.to (fun a o hb z => by rw [h a (tp a z).1 (tp a z).2]; exact hb) (fun a φ hb => by rw [h a (fun q => (by subst q; rw [q2] at hb; cases hb)) (fun q => (by subst q; rw [q3] at hb; cases hb))]; exact hb) fun a z => S.pw.2.g z⟩, fun i a z w => ?_⟩⟩
  · rw [h a (fun z => nb (.inr ((po a).mpr (.inl (.inl z))))) (fun z => nb (.inr ((po a).mpr (.inl (.inr z)))))]; exact hb
  · rcases z with z | z
    · exact .inl z
    · exact .inr ((po a).mpr z)
  · by_cases z : a = pa
    · subst z; rw [h1]; simp
    · by_cases z2 : a = ca
      · subst z2; rw [h2]; simp
      · rw [h a z z2]; exact hb
  · exact (po a).mp z
  · rw [h a (fun z => by subst z; rw [q4] at hb; cases hb) (fun z => by subst z; rw [q5] at hb; cases hb)]
    exact S.gh a u hb
  · have q := S.slot i sl hi
    cases sl with
    | no => trivial
    | val d => exact q
    | raw v => exact q
    | ob o => exact q
    | own es =>
      obtain ⟨a, xs, e1, ha, hh⟩ := q
      have e2 : σ[i]? = some (some (.ref a)) := by
        cases z : σ[i]? with
        | none => rw [z] at e1; cases e1
        | some o => rw [z] at e1; simp at e1; rw [e1]
      obtain ⟨n1, n2⟩ := np i a ⟨⟨es, hi⟩, e2⟩
      exact ⟨a, xs, e1, by rw [h a n1 n2]; exact ha, hh⟩
  · obtain ⟨n1, n2⟩ := np i a z
    rcases w with w | w
    · exact w.elim n1 n2
    · exact S.pne i a z ((po a).mpr (.inr w))
theorem raw_at {i : Nat} {v : V} (S : SA K G s σ H) (h : s.d[i]? = some (.raw v)) : σ[i]? = some (some v) := by
  have e : σ[i]?.join = some v := S.slot i _ h
  cases z : σ[i]? with
  | none => rw [z] at e; cases e
  | some o => rw [z] at e; simp at e; rw [e]
end
section
variable {X : Cx} {cl : String → Addr} {W : WX} {e a b c : Expr} {es : List Expr} {f g : M R} {fs : M (List R)} {pos : Pos} {p q : DSt → Flow}
def fUnP (i j k : Nat) : DSt → Flow := fun s => match s.d[i]?, s.w with
  | some (.raw (.ref p)), some (pa, ca, cells, t) => if p = pa ∧ pa ≠ ca ∧ j < s.d.length ∧ k < s.d.length then .next (putS k (.val (.int t)) (putS j (.raw (.ref ca)) s)) else .stuck
  | _, _ => .stuck
def fLenC (i : Nat) : M R := fun s => match s.d[i]?, s.w with
  | some (.raw (.ref c)), some (pa, ca, cells, t) => if c = ca then .ok (.val (.int cells.length)) s else .stuck
  | _, _ => .stuck
def fIxC (i : Nat) (f : M R) : M R := fun s => match s.d[i]? with
  | some (.raw (.ref c)) => bnd f (fun r s' => match s'.w, look r s' with
    | some (pa, ca, cells, t), some (.int n) => if c = ca then match atI cells n with
      | some z => .ok (.val (.int z)) s'
      | none => .stuck
      else .stuck
    | _, _ => .stuck) s
  | _ => .stuck
theorem atI_map {ns : List Int} {n z : Int} (h : atI ns n = some z) : atI (ns.map V.int) n = some (V.int z) := by
  unfold atI at h ⊢
  rw [List.length_map]
  cases q : ixN ns.length n with
  | none => rw [q] at h; cases h
  | some j =>
    rw [q] at h
    have h : ns[j]? = some z := h
    show (ns.map V.int)[j]? = _
    rw [List.getElem?_map, h]
    rfl
theorem d_ixC {i : Nat} {x : Expr} (hx : PE X x (tVar i)) (ha : DE X cl W e f) (hs : PlainIx e) : DE X cl W (.Subscript x e pos) (fIxC i f) := by
  refine pe_imp (pe_ix ix_seq hx ha hs) fun σ H Q ⟨G, s, S, q⟩ => ?_
  unfold fIxC at q
  split at q
  · rename_i c e1
    refine ⟨_, raw_at S e1, G, s, S, out_mono (out_bind q) fun r G1 s1 H1 st1 S1 k v rr => ?_⟩
    split at k
    · rename_i pa ca cells t n e2 e3
      split at k
      · rename_i hh
        subst hh
        split at k
        · rename_i z ez
          obtain rfl := dq_int (look_q S1 rr e3)
          obtain ⟨q1, q2, q3, q4, q5⟩ := pw_get S1 e2
          exact .inl ⟨c, _, n, _, rfl, rfl, .of q3, atI_map ez, k G1 H1 Stp.refl S1 _ (.int z)⟩
        · exact k.elim
      · exact k.elim
    · exact k.elim
  · exact q.elim
def fSetT (i : Nat) (f : M R) : DSt → Flow := fun s => onRes (f s) fun r s' => match s'.d[i]?, s'.w, look r s' with
  | some (.raw (.ref p)), some (pa, ca, cells, t), some (.int n) => if p = pa ∧ pa ≠ ca then .next { s' with w := some (pa, ca, cells, n) } else .stuck
  | _, _, _ => .stuck
def fSetC (i : Nat) (f g : M R) : DSt → Flow := fun s => onRes (f s) fun r s1 => match s1.d[i]? with
  | some (.raw (.ref c)) => onRes (g s1) fun k s2 => match s2.w, look r s1, look k s2 with
    | some (pa, ca, cells, t), some (.int z), some (.int n) => if c = ca then match ixN cells.length n with
      | some j => .next { s2 with w := some (pa, ca, cells.set j z, t) }
      | none => .stuck
      else .stuck
    | _, _, _ => .stuck
  | _ => .stuck
theorem s_setC {i : Nat} {x k : Expr} {p' : Pos} (he : DE X cl W e f) (hx : PE X x (tVar i)) (hk : DE X cl W k g)
    (ha : ∀ v, assign (.Subscript x k p') X.env v = (do
      let ov ← holding [v] (eval x X.env)
      let iv ← holding [v, ov] (eval k X.env)
      standAt p'
      holding [v, ov, iv] (setItem ov iv v)
      release [v, ov, iv] []) := by intro _; rfl)
    (hs : swapsWithSole [.Subscript x k p'] e pos.line X.env = pure false := by rfl) (hw : swappedStores [.Subscript x k p'] e X.env = pure none := by rfl) (h1 : (assignEach [.Subscript x k p'] X.env).map (·.2) = [assign (.Subscript x k p') X.env] := by rfl) :
    DS X cl W (.Assign [.Subscript x k p'] e pos) (fSetC i f g) := by
  refine ps_imp (ps_asg he (pg_sub hx hk set_list ha) hs hw h1) fun D σ H ⟨G, s, S, h⟩ => ⟨G, s, S, ?_⟩
  refine out_mono (fout_res h) fun r G1 s1 H1 st1 S1 k v rr => ?_
  split at k
  · rename_i c e1
    refine ⟨_, raw_at S1 e1, G1, s1, S1, ?_⟩
    have k3 := fout_shift st1 k
    refine out_mono (fout_res k3) fun kk G3 s3 H3 st3 S3 k4 u ru => ?_
    split at k4
    · rename_i pa ca cells t z n e2 e3 e4
      split at k4
      · rename_i hh
        subst hh
        split at k4
        · rename_i j ej
          obtain ⟨q1, q2, q3, q4, q5⟩ := pw_get S3 e2
          obtain rfl := dq_int (look_q S1 rr e3)
          obtain rfl := dq_int (look_q S3 ru e4)
          obtain ⟨st4, S4⟩ := pw_write (H' := upd H3 c (.lst ((cells.map V.int).set j (.int z)))) (cells' := cells.set j z) (t' := t) S3 e2 (fun a n1 n2 => upd_ne n2) (by
            by_cases z : pa = c
            · rw [z, upd_same, pwA_eq, List.map_set]
            · rw [upd_ne z, pwA_ne z]; rw [pwA_ne z] at q2; exact q2) (by rw [upd_same, List.map_set])
          exact ⟨c, _, n, j, rfl, rfl, q3, by rw [List.length_map]; exact ej, k4 _ σ _ (st3.trans st4) S4⟩
        · exact k4.elim
      · exact k4.elim
    · exact k4.elim
  · exact k.elim
end
end DL

/-! DL14: the purse made; a law -/
noncomputable section
namespace DL
open PySem L2 PyProof.Rows
open Evl (Ex)
def spPurse (K : PySem.W.Frag) : Sp := fun vs H Q _ => ∃ (a : Addr) (ns : List Int), vs = [.ref a] ∧ SqL K H a (ns.map V.int) ∧ ns.length ≤ 63 ∧ TabOk (fun _ => none) H ∧
  ∀ (pa ca : Addr) (cells : List Int) (H' : Hp), pa ≠ ca → H pa = none → H ca = none → TabOk (fun _ => none) H' → H' pa = some (.lst [.ref ca, .int 0]) → H' ca = some (.lst (cells.map V.int)) → cells ≠ [] → cells.length ≤ 63 → Q (.ref pa) H'
def spLaw (K : PySem.W.Frag) : Sp := fun vs H Q _ => ∃ (a : Addr) (ns : List Int), vs = [.ref a] ∧ SqL K H a (ns.map V.int) ∧ ns.length ≤ 63 ∧ TabOk (fun _ => none) H ∧ ∀ H', Q (.bl true) H'
section
variable {P : Program} {w : World} {K : PySem.W.Frag} {mg : Str → Option Value} {base : Heap} {cl : String → Addr}
def CalS (P : Program) (w : World) (K : PySem.W.Frag) (mg : Str → Option Value) (base : Heap) (x : Str) (k : Nat) (ps : List Str) (sp : Sp) : Prop :=
  ∃ (f : Addr) (fd : FuncData), FnG P w K mg base (L2.CX P w) k f fd ps sp ∧ mg x = some (.ref f) ∧ PySem.W.keepIn K (.ref f) = true ∧ Binds K fd ps []
end
end DL

/-! DL15: reckoning on data: what each piece does, as rows for simp -/
noncomputable section
namespace DL
open PySem L2
def andThen (x : Flow) (q : DSt → Flow) : Flow := match x with
  | .next s => q s
  | x => x
theorem inB_of {j : Int} (h1 : -1000000000 ≤ j) (h2 : j ≤ 1000000000) : inB j := ⟨by omega, by omega⟩
@[simp] theorem inB_lit {k : Nat} (h : k ≤ 1000000000) : inB (no_index (OfNat.ofNat k)) := ⟨by
  show -(2 ^ 62) ≤ (k : Int)
  omega, by
  show (k : Int) < 2 ^ 62
  omega⟩
@[simp] theorem inW_lit {k : Nat} (h : k ≤ 1000000000) : inW (no_index (OfNat.ofNat k)) := ⟨by
  show -(2 ^ 63) ≤ (k : Int)
  omega, by
  show (k : Int) < 2 ^ 63
  omega⟩
@[simp] theorem size_le {n : Nat} (h : n ≤ 100000) : leS n := Nat.le_trans h (by decide)
@[simp] theorem size_lt {n : Nat} (h : n ≤ 100000) : ltS n := Nat.lt_of_le_of_lt h (by decide)
@[simp] theorem at_next {s : DSt} {q : DSt → Flow} : andThen (.next s) q = q s := Eq.trans rfl rfl
@[simp] theorem at_ret {r : R} {s : DSt} {q : DSt → Flow} : andThen (.ret r s) q = .ret r s := Eq.trans rfl rfl
@[simp] theorem at_brk {s : DSt} {q : DSt → Flow} : andThen (.brk s) q = .brk s := Eq.trans rfl rfl
@[simp] theorem at_cnt {s : DSt} {q : DSt → Flow} : andThen (.cnt s) q = .cnt s := Eq.trans rfl rfl
@[simp] theorem at_err {z : Exn} {s : DSt} {q : DSt → Flow} : andThen (.err z s) q = .err z s := Eq.trans rfl rfl
@[simp] theorem at_stuck {q : DSt → Flow} : andThen .stuck q = .stuck := Eq.trans rfl rfl
def onF (x : FRes) (s : DSt) : Res R := match x with
  | .ok r w => .ok r ⟨s.d, w⟩
  | .err z w => .err z ⟨s.d, w⟩
  | .stuck => .stuck
@[simp] theorem onF_ok {r : R} {w : Pw} {s : DSt} : onF (.ok r w) s = .ok r ⟨s.d, w⟩ := Eq.trans rfl rfl
@[simp] theorem onF_err {r : Exn} {w : Pw} {s : DSt} : onF (.err r w) s = .err r ⟨s.d, w⟩ := Eq.trans rfl rfl
def finF (x : Flow) : FRes := match x with
  | .next s => .ok (.val .none) s.w
  | .ret r s => (match finR r s with | some r' => .ok r' s.w | none => .stuck)
  | .err z s => .err z s.w
  | _ => .stuck
@[simp] theorem finF_next {s : DSt} : finF (.next s) = .ok (.val .none) s.w := Eq.trans rfl rfl
@[simp] theorem finF_ret {r : R} {s : DSt} : finF (.ret r s) = (match finR r s with | some r' => .ok r' s.w | none => .stuck) := Eq.trans rfl rfl
@[simp] theorem finF_err {r : Exn} {s : DSt} : finF (.err r s) = .err r s.w := Eq.trans rfl rfl
/-! continuations by name: simp does not run ahead into them -/
def kOp (o : R → R → M R) (g : M R) (x : R) (s : DSt) : Res R := (g s).bind (o x)
@[simp] theorem y_kOp (o : R → R → M R) (g : M R) (x : R) (s : DSt) : kOp o g x s = ((g s).bind (o x)) := Eq.trans rfl rfl
def kB  (r : R) (s : DSt) : Res Bool := match look r s with | some (.bool b) => .ok b s | _ => .stuck
@[simp] theorem y_kB  (r : R) (s : DSt) : kB  r s = (match look r s with | some (.bool b) => .ok b s | _ => .stuck) := Eq.trans rfl rfl
def kAnd (u : M Bool) (b : Bool) (s : DSt) : Res Bool := if b = true then u s else .ok false s
@[simp] theorem y_kAnd (u : M Bool) (b : Bool) (s : DSt) : kAnd u b s = (if b = true then u s else .ok false s) := Eq.trans rfl rfl
def kOr (u : M Bool) (b : Bool) (s : DSt) : Res Bool := if b = true then .ok true s else u s
@[simp] theorem y_kOr (u : M Bool) (b : Bool) (s : DSt) : kOr u b s = (if b = true then .ok true s else u s) := Eq.trans rfl rfl
def kNot  (b : Bool) (s : DSt) : Res Bool := .ok (!b) s
@[simp] theorem y_kNot  (b : Bool) (s : DSt) : kNot  b s = (.ok (!b) s) := Eq.trans rfl rfl
def kV  (b : Bool) (s : DSt) : Res R := .ok (.val (.bool b)) s
@[simp] theorem y_kV  (b : Bool) (s : DSt) : kV  b s = (.ok (.val (.bool b)) s) := Eq.trans rfl rfl
def kAndV (g : M R) (b : Bool) (s : DSt) : Res R := if b = true then g s else .ok (.val (.bool false)) s
@[simp] theorem y_kAndV (g : M R) (b : Bool) (s : DSt) : kAndV g b s = (if b = true then g s else .ok (.val (.bool false)) s) := Eq.trans rfl rfl
def kOrV (g : M R) (b : Bool) (s : DSt) : Res R := if b = true then .ok (.val (.bool true)) s else g s
@[simp] theorem y_kOrV (g : M R) (b : Bool) (s : DSt) : kOrV g b s = (if b = true then .ok (.val (.bool true)) s else g s) := Eq.trans rfl rfl
def kIf (f g : M R) (b : Bool) (s : DSt) : Res R := if b = true then f s else g s
@[simp] theorem y_kIf (f g : M R) (b : Bool) (s : DSt) : kIf f g b s = (if b = true then f s else g s) := Eq.trans rfl rfl
def kCons3 (r : R) (rs : List R) (s : DSt) : Res (List R) := .ok (r :: rs) s
@[simp] theorem y_kCons3 (r : R) (rs : List R) (s : DSt) : kCons3 r rs s = (.ok (r :: rs) s) := Eq.trans rfl rfl
def kCons2 (fs : M (List R)) (r : R) (s : DSt) : Res (List R) := (fs s).bind (kCons3 r)
@[simp] theorem y_kCons2 (fs : M (List R)) (r : R) (s : DSt) : kCons2 fs r s = ((fs s).bind (kCons3 r)) := Eq.trans rfl rfl
def kCons (fs : M (List R)) (r : R) (s : DSt) : Res (List R) := (fEsc r s).bind (kCons2 fs)
@[simp] theorem y_kCons (fs : M (List R)) (r : R) (s : DSt) : kCons fs r s = ((fEsc r s).bind (kCons2 fs)) := Eq.trans rfl rfl
def kLst  (rs : List R) (s : DSt) : Res R := match datas rs with | some ds => if leS ds.length then .ok (.new ds) s else .stuck | none => .stuck
@[simp] theorem y_kLst  (rs : List R) (s : DSt) : kLst  rs s = (match datas rs with | some ds => if leS ds.length then .ok (.new ds) s else .stuck | none => .stuck) := Eq.trans rfl rfl
def kTup  (rs : List R) (s : DSt) : Res R := match datas rs with | some ds => if leS ds.length then .ok (.val (.tuple ds)) s else .stuck | none => .stuck
@[simp] theorem y_kTup  (rs : List R) (s : DSt) : kTup  rs s = (match datas rs with | some ds => if leS ds.length then .ok (.val (.tuple ds)) s else .stuck | none => .stuck) := Eq.trans rfl rfl
def kPart  (r : R) (s : DSt) : Res (Option Int) := match look r s with | some (.int i) => .ok (some i) s | _ => .stuck
@[simp] theorem y_kPart  (r : R) (s : DSt) : kPart  r s = (match look r s with | some (.int i) => .ok (some i) s | _ => .stuck) := Eq.trans rfl rfl
def kSl3 (x : R) (lo : Option Int) (hi : Option Int) (s : DSt) : Res R := match look x s with | some d => (match sliceO d lo hi with | some (.slot _) => .stuck | some r => .ok r s | none => .stuck) | none => .stuck
@[simp] theorem y_kSl3 (x : R) (lo : Option Int) (hi : Option Int) (s : DSt) : kSl3 x lo hi s = (match look x s with | some d => (match sliceO d lo hi with | some (.slot _) => .stuck | some r => .ok r s | none => .stuck) | none => .stuck) := Eq.trans rfl rfl
def kSl2 (b : M (Option Int)) (x : R) (lo : Option Int) (s : DSt) : Res R := (b s).bind (kSl3 x lo)
@[simp] theorem y_kSl2 (b : M (Option Int)) (x : R) (lo : Option Int) (s : DSt) : kSl2 b x lo s = ((b s).bind (kSl3 x lo)) := Eq.trans rfl rfl
def kSl1 (a b : M (Option Int)) (x : R) (s : DSt) : Res R := (a s).bind (kSl2 b x)
@[simp] theorem y_kSl1 (a b : M (Option Int)) (x : R) (s : DSt) : kSl1 a b x s = ((a s).bind (kSl2 b x)) := Eq.trans rfl rfl
def kIsN (b : Bool) (r : R) (s : DSt) : Res R := match isNR r s with | some c => .ok (.val (.bool (if b then !c else c))) s | none => .stuck
@[simp] theorem y_kIsN (b : Bool) (r : R) (s : DSt) : kIsN b r s = (match isNR r s with | some c => .ok (.val (.bool (if b then !c else c))) s | none => .stuck) := Eq.trans rfl rfl
def kDrop  (r : R) (s : DSt) : Flow := .next s
@[simp] theorem y_kDrop  (r : R) (s : DSt) : kDrop  r s = (.next s) := Eq.trans rfl rfl
def kIfS (p q : DSt → Flow) (b : Bool) (s : DSt) : Flow := if b = true then p s else q s
@[simp] theorem y_kIfS (p q : DSt → Flow) (b : Bool) (s : DSt) : kIfS p q b s = (if b = true then p s else q s) := Eq.trans rfl rfl
def kSet (i : Nat) (r : R) (s : DSt) : Flow := if i < s.d.length then (match store i r s with | some s2 => .next s2 | none => .stuck) else .stuck
@[simp] theorem y_kSet (i : Nat) (r : R) (s : DSt) : kSet i r s = (if i < s.d.length then (match store i r s with | some s2 => .next s2 | none => .stuck) else .stuck) := Eq.trans rfl rfl
def kUser (F : List R → Pw → FRes) (rs : List R) (s : DSt) : Res R := onF (F rs s.w) s
@[simp] theorem y_kUser (F : List R → Pw → FRes) (rs : List R) (s : DSt) : kUser F rs s = (onF (F rs s.w) s) := Eq.trans rfl rfl
def kCall (o : List PyData → Option R) (rs : List R) (s : DSt) : Res R := match looks rs s with | some ds => (match o ds with | some (.slot _) => .stuck | some r => .ok r s | none => .stuck) | none => .stuck
@[simp] theorem y_kCall (o : List PyData → Option R) (rs : List R) (s : DSt) : kCall o rs s = (match looks rs s with | some ds => (match o ds with | some (.slot _) => .stuck | some r => .ok r s | none => .stuck) | none => .stuck) := Eq.trans rfl rfl
def kIsi (m : String) (r : R) (s : DSt) : Res R := match look r s with | some d => .ok (.val (.bool (isT m d))) s | none => .stuck
@[simp] theorem y_kIsi (m : String) (r : R) (s : DSt) : kIsi m r s = (match look r s with | some d => .ok (.val (.bool (isT m d))) s | none => .stuck) := Eq.trans rfl rfl
def kLenSet  (r : R) (s : DSt) : Res R := match look r s with | some (.list ds) => (match intsD ds with | some ns => if ns.length ≤ 4000 then .ok (.val (.int (nubI ns).length)) s else .stuck | none => .stuck) | _ => .stuck
@[simp] theorem y_kLenSet  (r : R) (s : DSt) : kLenSet  r s = (match look r s with | some (.list ds) => (match intsD ds with | some ns => if ns.length ≤ 4000 then .ok (.val (.int (nubI ns).length)) s else .stuck | none => .stuck) | _ => .stuck) := Eq.trans rfl rfl
def kIdx2 (x : R) (r : R) (s : DSt) : Res R := match look x s, look r s with | some (.list ds), some d => (match idxO ds d with | some j => .ok (.val (.int (j : Nat))) s | none => .stuck) | _, _ => .stuck
@[simp] theorem y_kIdx2 (x : R) (r : R) (s : DSt) : kIdx2 x r s = (match look x s, look r s with | some (.list ds), some d => (match idxO ds d with | some j => .ok (.val (.int (j : Nat))) s | none => .stuck) | _, _ => .stuck) := Eq.trans rfl rfl
def kIdx (f : M R) (x : R) (s : DSt) : Res R := if isLst x s = true then (f s).bind (kIdx2 x) else .stuck
@[simp] theorem y_kIdx (f : M R) (x : R) (s : DSt) : kIdx f x s = (if isLst x s = true then (f s).bind (kIdx2 x) else .stuck) := Eq.trans rfl rfl
def kApp2 (i : Nat) (r : R) (s : DSt) : Res R := match r, s.d[i]? with | .val d, some (.own ds) => if ltS ds.length then .ok (.val .none) (putS i (.own (ds ++ [d])) s) else .stuck | _, _ => .stuck
@[simp] theorem y_kApp2 (i : Nat) (r : R) (s : DSt) : kApp2 i r s = (match r, s.d[i]? with | .val d, some (.own ds) => if ltS ds.length then .ok (.val .none) (putS i (.own (ds ++ [d])) s) else .stuck | _, _ => .stuck) := Eq.trans rfl rfl
def kApp1 (i : Nat) (r : R) (s : DSt) : Res R := (fEsc r s).bind (kApp2 i)
@[simp] theorem y_kApp1 (i : Nat) (r : R) (s : DSt) : kApp1 i r s = ((fEsc r s).bind (kApp2 i)) := Eq.trans rfl rfl
def kPopAt (i : Nat) (r : R) (s : DSt) : Res R := match look r s, s.d[i]? with | some (.int k), some (.own ds) => (match ixN ds.length k with | some j => (match ds[j]? with | some d => if inW k then .ok (.val d) (putS i (.own (ds.eraseIdx j)) s) else .stuck | none => .stuck) | none => .stuck) | _, _ => .stuck
@[simp] theorem y_kPopAt (i : Nat) (r : R) (s : DSt) : kPopAt i r s = (match look r s, s.d[i]? with | some (.int k), some (.own ds) => (match ixN ds.length k with | some j => (match ds[j]? with | some d => if inW k then .ok (.val d) (putS i (.own (ds.eraseIdx j)) s) else .stuck | none => .stuck) | none => .stuck) | _, _ => .stuck) := Eq.trans rfl rfl
def kIns (i : Nat) (rs : List R) (s : DSt) : Res R := match rs, s.d[i]? with | [.val (.int k), .val d], some (.own ds) => if 0 ≤ k ∧ inW k ∧ ltS ds.length then .ok (.val .none) (putS i (.own (ds.take k.toNat ++ [d] ++ ds.drop k.toNat)) s) else .stuck | _, _ => .stuck
@[simp] theorem y_kIns (i : Nat) (rs : List R) (s : DSt) : kIns i rs s = (match rs, s.d[i]? with | [.val (.int k), .val d], some (.own ds) => if 0 ≤ k ∧ inW k ∧ ltS ds.length then .ok (.val .none) (putS i (.own (ds.take k.toNat ++ [d] ++ ds.drop k.toNat)) s) else .stuck | _, _ => .stuck) := Eq.trans rfl rfl
def kRem (i : Nat) (r : R) (s : DSt) : Res R := match look r s, s.d[i]? with | some (.int k), some (.own ds) => (match intsD ds with | some ns => (match ns.findIdx? (· == k) with | some j => .ok (.val .none) (putS i (.own ((ns.eraseIdx j).map .int)) s) | none => .stuck) | none => .stuck) | _, _ => .stuck
@[simp] theorem y_kRem (i : Nat) (r : R) (s : DSt) : kRem i r s = (match look r s, s.d[i]? with | some (.int k), some (.own ds) => (match intsD ds with | some ns => (match ns.findIdx? (· == k) with | some j => .ok (.val .none) (putS i (.own ((ns.eraseIdx j).map .int)) s) | none => .stuck) | none => .stuck) | _, _ => .stuck) := Eq.trans rfl rfl
def kAug (i : Nat) (o : Int → Int → Int) (a : Int) (r : R) (s : DSt) : Flow := match look r s with | some (.int b) => if i < s.d.length then .next (putS i (.val (.int (o a b))) s) else .stuck | _ => .stuck
@[simp] theorem y_kAug (i : Nat) (o : Int → Int → Int) (a : Int) (r : R) (s : DSt) : kAug i o a r s = (match look r s with | some (.int b) => if i < s.d.length then .next (putS i (.val (.int (o a b))) s) else .stuck | _ => .stuck) := Eq.trans rfl rfl
def kSetIx2 (i : Nat) (r : R) (k : R) (s : DSt) : Flow := match r, look k s, s.d[i]? with | .val d, some (.int n), some (.own ds) => (match ixN ds.length n with | some j => .next (putS i (.own (ds.set j d)) s) | none => .stuck) | _, _, _ => .stuck
@[simp] theorem y_kSetIx2 (i : Nat) (r : R) (k : R) (s : DSt) : kSetIx2 i r k s = (match r, look k s, s.d[i]? with | .val d, some (.int n), some (.own ds) => (match ixN ds.length n with | some j => .next (putS i (.own (ds.set j d)) s) | none => .stuck) | _, _, _ => .stuck) := Eq.trans rfl rfl
def kSetIx (i : Nat) (g : M R) (r : R) (s : DSt) : Flow := if isOwn i s = true then onRes (g s) (kSetIx2 i r) else .stuck
@[simp] theorem y_kSetIx (i : Nat) (g : M R) (r : R) (s : DSt) : kSetIx i g r s = (if isOwn i s = true then onRes (g s) (kSetIx2 i r) else .stuck) := Eq.trans rfl rfl
def kPar (i j : Nat) (rs : List R) (s : DSt) : Flow := match rs with | [r1, r2] => if i < s.d.length ∧ j < s.d.length then .next (putS j (toSl r2) (putS i (toSl r1) s)) else .stuck | _ => .stuck
@[simp] theorem y_kPar (i j : Nat) (rs : List R) (s : DSt) : kPar i j rs s = (match rs with | [r1, r2] => if i < s.d.length ∧ j < s.d.length then .next (putS j (toSl r2) (putS i (toSl r1) s)) else .stuck | _ => .stuck) := Eq.trans rfl rfl
def kAsgB (b : Bd) (r : R) (s : DSt) : Flow := match r with | .val d => (match b d s with | some s2 => .next s2 | none => .stuck) | _ => .stuck
@[simp] theorem y_kAsgB (b : Bd) (r : R) (s : DSt) : kAsgB b r s = (match r with | .val d => (match b d s with | some s2 => .next s2 | none => .stuck) | _ => .stuck) := Eq.trans rfl rfl
def kLstI2  (r : R) (s : DSt) : Res (List PyData) := match r with | .val (.list ds) => .ok ds s | .val (.tuple ds) => .ok ds s | _ => .stuck
@[simp] theorem y_kLstI2  (r : R) (s : DSt) : kLstI2  r s = (match r with | .val (.list ds) => .ok ds s | .val (.tuple ds) => .ok ds s | _ => .stuck) := Eq.trans rfl rfl
def kLstI  (r : R) (s : DSt) : Res (List PyData) := (fEsc r s).bind kLstI2
@[simp] theorem y_kLstI  (r : R) (s : DSt) : kLstI  r s = ((fEsc r s).bind kLstI2) := Eq.trans rfl rfl
def kTupI  (r : R) (s : DSt) : Res (List PyData) := match look r s with | some (.tuple ds) => .ok ds s | _ => .stuck
@[simp] theorem y_kTupI  (r : R) (s : DSt) : kTupI  r s = (match look r s with | some (.tuple ds) => .ok ds s | _ => .stuck) := Eq.trans rfl rfl
def kRng1  (rs : List R) (s : DSt) : Res (List PyData) := match rs with | [r] => (match look r s with | some (.int j) => if inB j then .ok (rangeD 0 j.toNat) s else .stuck | _ => .stuck) | _ => .stuck
@[simp] theorem y_kRng1  (rs : List R) (s : DSt) : kRng1  rs s = (match rs with | [r] => (match look r s with | some (.int j) => if inB j then .ok (rangeD 0 j.toNat) s else .stuck | _ => .stuck) | _ => .stuck) := Eq.trans rfl rfl
def kRng2  (rs : List R) (s : DSt) : Res (List PyData) := match rs with | [r, r2] => (match look r s, look r2 s with | some (.int i), some (.int j) => if inB i ∧ inB j then .ok (rangeD i (j - i).toNat) s else .stuck | _, _ => .stuck) | _ => .stuck
@[simp] theorem y_kRng2  (rs : List R) (s : DSt) : kRng2  rs s = (match rs with | [r, r2] => (match look r s, look r2 s with | some (.int i), some (.int j) => if inB i ∧ inB j then .ok (rangeD i (j - i).toNat) s else .stuck | _, _ => .stuck) | _ => .stuck) := Eq.trans rfl rfl
def kEnum  (rs : List R) (s : DSt) : Res (List PyData) := match rs with | [.val (.list ds)] => .ok (enumD ds) s | _ => .stuck
@[simp] theorem y_kEnum  (rs : List R) (s : DSt) : kEnum  rs s = (match rs with | [.val (.list ds)] => .ok (enumD ds) s | _ => .stuck) := Eq.trans rfl rfl
def kZip  (rs : List R) (s : DSt) : Res (List PyData) := match rs with | [.val (.list ds), .val (.list es)] => .ok (zipD ds es) s | _ => .stuck
@[simp] theorem y_kZip  (rs : List R) (s : DSt) : kZip  rs s = (match rs with | [.val (.list ds), .val (.list es)] => .ok (zipD ds es) s | _ => .stuck) := Eq.trans rfl rfl
def kUn (o : R → M R) (x : R) (s : DSt) : Res R := o x s
@[simp] theorem y_kUn (o : R → M R) (x : R) (s : DSt) : kUn o x s = (o x s) := Eq.trans rfl rfl
def kIxC (c : Addr) (r : R) (s : DSt) : Res R := match s.w, look r s with | some (pa, ca, cells, t), some (.int n) => if c = ca then match atI cells n with | some z => .ok (.val (.int z)) s | none => .stuck else .stuck | _, _ => .stuck
@[simp] theorem y_kIxC (c : Addr) (r : R) (s : DSt) : kIxC c r s = (match s.w, look r s with | some (pa, ca, cells, t), some (.int n) => if c = ca then match atI cells n with | some z => .ok (.val (.int z)) s | none => .stuck else .stuck | _, _ => .stuck) := Eq.trans rfl rfl
@[simp] theorem x_ixC {i : Nat} {f : M R} {s : DSt} : fIxC i f s = (match s.d[i]? with | some (.raw (.ref c)) => (f s).bind (kIxC c) | _ => .stuck) := Eq.trans rfl rfl
@[simp] theorem x_unP {i j k : Nat} {s : DSt} : fUnP i j k s = (match s.d[i]?, s.w with | some (.raw (.ref p)), some (pa, ca, cells, t) => if p = pa ∧ pa ≠ ca ∧ j < s.d.length ∧ k < s.d.length then .next (putS k (.val (.int t)) (putS j (.raw (.ref ca)) s)) else .stuck | _, _ => .stuck) := Eq.trans rfl rfl
@[simp] theorem x_lenC {i : Nat} {s : DSt} : fLenC i s = (match s.d[i]?, s.w with | some (.raw (.ref c)), some (pa, ca, cells, t) => if c = ca then .ok (.val (.int cells.length)) s else .stuck | _, _ => .stuck) := Eq.trans rfl rfl
def kSetT (i : Nat) (r : R) (s : DSt) : Flow := match s.d[i]?, s.w, look r s with | some (.raw (.ref p)), some (pa, ca, cells, t), some (.int n) => if p = pa ∧ pa ≠ ca then .next ⟨s.d, some (pa, ca, cells, n)⟩ else .stuck | _, _, _ => .stuck
@[simp] theorem y_kSetT (i : Nat) (r : R) (s : DSt) : kSetT i r s = (match s.d[i]?, s.w, look r s with | some (.raw (.ref p)), some (pa, ca, cells, t), some (.int n) => if p = pa ∧ pa ≠ ca then .next ⟨s.d, some (pa, ca, cells, n)⟩ else .stuck | _, _, _ => .stuck) := Eq.trans rfl rfl
@[simp] theorem x_setT {i : Nat} {f : M R} {s : DSt} : fSetT i f s = onRes (f s) (kSetT i) := Eq.trans rfl rfl
def kSetC2 (c : Addr) (z : Option PyData) (k : R) (s : DSt) : Flow := match s.w, z, look k s with | some (pa, ca, cells, t), some (.int z), some (.int n) => if c = ca then match ixN cells.length n with | some j => .next ⟨s.d, some (pa, ca, cells.set j z, t)⟩ | none => .stuck else .stuck | _, _, _ => .stuck
@[simp] theorem y_kSetC2 (c : Addr) (z : Option PyData) (k : R) (s : DSt) : kSetC2 c z k s = (match s.w, z, look k s with | some (pa, ca, cells, t), some (.int z), some (.int n) => if c = ca then match ixN cells.length n with | some j => .next ⟨s.d, some (pa, ca, cells.set j z, t)⟩ | none => .stuck else .stuck | _, _, _ => .stuck) := Eq.trans rfl rfl
def kSetC (i : Nat) (g : M R) (r : R) (s : DSt) : Flow := match s.d[i]? with | some (.raw (.ref c)) => onRes (g s) (kSetC2 c (look r s)) | _ => .stuck
@[simp] theorem y_kSetC (i : Nat) (g : M R) (r : R) (s : DSt) : kSetC i g r s = (match s.d[i]? with | some (.raw (.ref c)) => onRes (g s) (kSetC2 c (look r s)) | _ => .stuck) := Eq.trans rfl rfl
@[simp] theorem x_setC {i : Nat} {f g : M R} {s : DSt} : fSetC i f g s = onRes (f s) (kSetC i g) := Eq.trans rfl rfl
section
variable {α β : Type} {i j k n : Nat} {s s1 s2 : DSt} {f g : M R} {fs : M (List R)} {t u : M Bool} {p q : DSt → Flow} {r x y : R} {d e : PyData} {ds es : List PyData} {v : V} {l : List Sl} {w : Pw} {c : Sl}
@[simp] theorem x_var : fVar i s = (match s.d[i]? with | some (.val d) => .ok (.val d) s | some (.raw v) => .ok (.raw v) s | some (.ob o) => .ok (.ob o) s | some (.own _) => .ok (.slot i) s | _ => .stuck) := Eq.trans rfl rfl
@[simp] theorem x_c : fC d s = .ok (.val d) s := Eq.trans rfl rfl
@[simp] theorem x_raw : fRaw v s = .ok (.raw v) s := Eq.trans rfl rfl
@[simp] theorem x_op {o : R → R → M R} : fOp o f g s = (f s).bind (kOp o g) := Eq.trans rfl rfl
@[simp] theorem x_look_val : look (.val d) s = some d := Eq.trans rfl rfl
@[simp] theorem x_look_new : look (.new ds) s = some (.list ds) := Eq.trans rfl rfl
@[simp] theorem x_look_raw : look (.raw v) s = none := Eq.trans rfl rfl
@[simp] theorem x_look_ob {o : OD} : look (.ob o) s = none := Eq.trans rfl rfl
@[simp] theorem x_look_slot : look (.slot i) s = (match s.d[i]? with | some (.own ds) => some (.list ds) | some (.val d) => some d | _ => none) := Eq.trans rfl rfl
@[simp] theorem x_lift1 {o : PyData → Option R} : lift1 o x s = (match look x s with | some d => (match o d with | some (.slot _) => .stuck | some r => .ok r s | none => .stuck) | none => .stuck) := Eq.trans rfl rfl
@[simp] theorem x_lift2 {o : PyData → PyData → Option R} : lift2 o x y s = (match look x s, look y s with | some d, some e => (match o d e with | some (.slot _) => .stuck | some r => .ok r s | none => .stuck) | _, _ => .stuck) := Eq.trans rfl rfl
@[simp] theorem x_B : fB f s = (f s).bind kB := Eq.trans rfl rfl
@[simp] theorem x_and : fAnd t u s = (t s).bind (kAnd u) := by
  show Res.bind _ _ = _
  congr 1
  funext b s
  cases b <;> rfl
@[simp] theorem x_or : fOr t u s = (t s).bind (kOr u) := by
  show Res.bind _ _ = _
  congr 1
  funext b s
  cases b <;> rfl
@[simp] theorem x_not : fNot t s = (t s).bind kNot := Eq.trans rfl rfl
@[simp] theorem x_V : fV t s = (t s).bind kV := Eq.trans rfl rfl
@[simp] theorem x_andV : fAndV f g s = (fB f s).bind (kAndV g) := by
  show Res.bind _ _ = _
  congr 1
  funext b s
  cases b <;> rfl
@[simp] theorem x_orV : fOrV f g s = (fB f s).bind (kOrV g) := by
  show Res.bind _ _ = _
  congr 1
  funext b s
  cases b <;> rfl
@[simp] theorem x_if : fIf t f g s = (t s).bind (kIf f g) := by
  show Res.bind _ _ = _
  congr 1
  funext b s
  cases b <;> rfl
@[simp] theorem x_esc_val : esc (.val d) s = some (.val d, s) := Eq.trans rfl rfl
@[simp] theorem x_esc_raw : esc (.raw v) s = some (.raw v, s) := Eq.trans rfl rfl
@[simp] theorem x_esc_ob {o : OD} : esc (.ob o) s = some (.ob o, s) := Eq.trans rfl rfl
@[simp] theorem x_esc_new : esc (.new ds) s = some (.val (.list ds), s) := Eq.trans rfl rfl
@[simp] theorem x_esc_slot : esc (.slot i) s = (match s.d[i]? with | some (.own ds) => some (.val (.list ds), ⟨s.d.set i (.val (.list ds)), s.w⟩) | some (.val d) => some (.val d, s) | _ => none) := Eq.trans rfl rfl
@[simp] theorem x_Esc : fEsc r s = (match esc r s with | some (r', s') => .ok r' s' | none => .stuck) := Eq.trans rfl rfl
@[simp] theorem x_nil : fNil s = .ok [] s := Eq.trans rfl rfl
@[simp] theorem x_cons : fCons f fs s = (f s).bind (kCons fs) := Eq.trans rfl rfl
@[simp] theorem x_pcons : pCons f fs s = (f s).bind (kCons2 fs) := Eq.trans rfl rfl
@[simp] theorem x_datas_nil : datas [] = some [] := Eq.trans rfl rfl
@[simp] theorem x_datas_cons {rs : List R} : datas (.val d :: rs) = (datas rs).map (d :: ·) := Eq.trans rfl rfl
@[simp] theorem x_lst : fLst fs s = (fs s).bind kLst := Eq.trans rfl rfl
@[simp] theorem x_tup : fTup fs s = (fs s).bind kTup := Eq.trans rfl rfl
@[simp] theorem x_part : fPart f s = (f s).bind kPart := Eq.trans rfl rfl
@[simp] theorem x_nopart : fNoPart s = .ok none s := Eq.trans rfl rfl
@[simp] theorem x_slice {a b : M (Option Int)} : fSlice f a b s = (f s).bind (kSl1 a b) := Eq.trans rfl rfl
@[simp] theorem x_un {o : R → M R} : fUn o f s = (f s).bind (kUn o) := Eq.trans rfl rfl
@[simp] theorem x_isN {b : Bool} : fIsN b f s = (f s).bind (kIsN b) := Eq.trans rfl rfl
@[simp] theorem x_isN_val : isNR (.val d) s = some (match d with | .none => true | _ => false) := by cases d <;> rfl
@[simp] theorem x_isN_ob {o : OD} : isNR (.ob o) s = some false := Eq.trans rfl rfl
@[simp] theorem x_isN_new : isNR (.new ds) s = some false := Eq.trans rfl rfl
@[simp] theorem x_isN_slot : isNR (.slot i) s = (match s.d[i]? with | some (.own _) => some false | some (.val d) => some (match d with | .none => true | _ => false) | _ => none) := by
  show (match look (.slot i) s with | some .none => some true | some _ => some false | none => none) = _
  rw [x_look_slot]
  cases s.d[i]? with
  | none => rfl
  | some c =>
    cases c with
    | val d => cases d <;> rfl
    | _ => rfl
@[simp] theorem x_onRes_ok {a : α} {h : α → DSt → Flow} : onRes (.ok a s) h = h a s := Eq.trans rfl rfl
@[simp] theorem x_onRes_err {z : Exn} {h : α → DSt → Flow} : onRes (.err z s) h = .err z s := Eq.trans rfl rfl
@[simp] theorem x_onRes_stuck {h : α → DSt → Flow} : onRes .stuck h = .stuck := Eq.trans rfl rfl
@[simp] theorem x_seq : fseq p q s = andThen (p s) q := Eq.trans rfl rfl
@[simp] theorem x_next : fnext s = .next s := Eq.trans rfl rfl
@[simp] theorem x_brk : fbrk s = .brk s := Eq.trans rfl rfl
@[simp] theorem x_cnt : fcnt s = .cnt s := Eq.trans rfl rfl
@[simp] theorem x_never : fnever s = .stuck := Eq.trans rfl rfl
@[simp] theorem x_drop : fDrop f s = onRes (f s) kDrop := Eq.trans rfl rfl
@[simp] theorem x_ret : fRet f s = onRes (f s) Flow.ret := Eq.trans rfl rfl
@[simp] theorem x_retN : fRetN s = .ret (.val .none) s := Eq.trans rfl rfl
@[simp] theorem x_ifS : fIfS t p q s = onRes (t s) (kIfS p q) := by
  show onRes _ _ = _
  congr 1
@[simp] theorem x_store_val : store i (.val d) s = some (putS i (.val d) s) := Eq.trans rfl rfl
@[simp] theorem x_store_raw : store i (.raw v) s = some (putS i (.raw v) s) := Eq.trans rfl rfl
@[simp] theorem x_store_ob {o : OD} : store i (.ob o) s = some (putS i (.ob o) s) := Eq.trans rfl rfl
@[simp] theorem x_store_new : store i (.new ds) s = some (putS i (.own ds) s) := Eq.trans rfl rfl
@[simp] theorem x_store_slot : store i (.slot j) s = (match s.d[j]? with | some (.own ds) => some (putS i (.val (.list ds)) (putS j (.val (.list ds)) s)) | some (.val d) => some (putS i (.val d) s) | _ => none) := Eq.trans rfl rfl
@[simp] theorem x_putS : putS i c ⟨l, w⟩ = ⟨l.set i c, w⟩ := Eq.trans rfl rfl
@[simp] theorem x_set : fSet i f s = onRes (f s) (kSet i) := Eq.trans rfl rfl
@[simp] theorem x_user {F : List R → Pw → FRes} : fUser F fs s = (fs s).bind (kUser F) := Eq.trans rfl rfl
@[simp] theorem x_call {o : List PyData → Option R} : fCall o fs s = (fs s).bind (kCall o) := Eq.trans rfl rfl
@[simp] theorem x_looks_nil : looks [] s = some [] := Eq.trans rfl rfl
@[simp] theorem x_looks_cons {rs : List R} : looks (r :: rs) s = (match look r s, looks rs s with | some d, some ds => some (d :: ds) | _, _ => none) := Eq.trans rfl rfl
@[simp] theorem x_isi {m : String} : fIsi m f s = (f s).bind (kIsi m) := Eq.trans rfl rfl
@[simp] theorem x_lenSet : fLenSet f s = (f s).bind kLenSet := Eq.trans rfl rfl
@[simp] theorem x_isLst_val : isLst (.val (.list ds)) s = true := Eq.trans rfl rfl
@[simp] theorem x_isLst_new : isLst (.new ds) s = true := Eq.trans rfl rfl
@[simp] theorem x_isLst_slot : isLst (.slot i) s = (match s.d[i]? with | some (.own _) => true | some (.val (.list _)) => true | _ => false) := by
  show (match look (.slot i) s with | some (.list _) => true | _ => false) = _
  rw [x_look_slot]
  cases s.d[i]? with
  | none => rfl
  | some c =>
    cases c with
    | val d => cases d <;> rfl
    | _ => rfl
@[simp] theorem x_index : fIndex g f s = (g s).bind (kIdx f) := by
  show Res.bind _ _ = _
  congr 1
@[simp] theorem x_isOwn : isOwn i s = (match s.d[i]? with | some (.own _) => true | _ => false) := Eq.trans rfl rfl
@[simp] theorem x_app : fApp i f s = if isOwn i s = true then (f s).bind (kApp1 i) else .stuck := Eq.trans rfl rfl
@[simp] theorem x_pop : fPop i s = (match s.d[i]? with | some (.own ds) => (match ds[ds.length - 1]? with | some d => .ok (.val d) (putS i (.own ds.dropLast) s) | none => .stuck) | _ => .stuck) := Eq.trans rfl rfl
@[simp] theorem x_popAt : fPopAt i f s = if isOwn i s = true then (f s).bind (kPopAt i) else .stuck := Eq.trans rfl rfl
@[simp] theorem x_ins : fIns i fs s = if isOwn i s = true then (fs s).bind (kIns i) else .stuck := Eq.trans rfl rfl
@[simp] theorem x_rem : fRem i f s = if isOwn i s = true then (f s).bind (kRem i) else .stuck := Eq.trans rfl rfl
@[simp] theorem x_clear : fClear i s = (match s.d[i]? with | some (.own _) => .ok (.val .none) (putS i (.own []) s) | _ => .stuck) := Eq.trans rfl rfl
@[simp] theorem x_aug {o : Int → Int → Int} : fAug i o f s = (match s.d[i]? with | some (.val (.int a)) => onRes (f s) (kAug i o a) | _ => .stuck) := Eq.trans rfl rfl
@[simp] theorem x_setIx : fSetIx i f g s = onRes ((f s).bind fEsc) (kSetIx i g) := Eq.trans rfl rfl
@[simp] theorem x_toSl_val : toSl (.val d) = .val d := Eq.trans rfl rfl
@[simp] theorem x_toSl_ob {o : OD} : toSl (.ob o) = .ob o := Eq.trans rfl rfl
@[simp] theorem x_toSl_raw : toSl (.raw v) = .raw v := Eq.trans rfl rfl
@[simp] theorem x_par : fPar i j fs s = onRes (fs s) (kPar i j) := Eq.trans rfl rfl
@[simp] theorem x_bName : bName i d s = if i < s.d.length then some (putS i (.val d) s) else none := Eq.trans rfl rfl
@[simp] theorem x_bTup {bs : Bds} : bTup n bs (.tuple ds) s = if ds.length = n then bs ds s else none := Eq.trans rfl rfl
@[simp] theorem x_bSeq_t {bs : Bds} : bSeq n bs (.tuple ds) s = if ds.length = n then bs ds s else none := Eq.trans rfl rfl
@[simp] theorem x_bSeq_l {bs : Bds} : bSeq n bs (.list ds) s = if ds.length = n then bs ds s else none := Eq.trans rfl rfl
@[simp] theorem x_bNil : bNil [] s = some s := Eq.trans rfl rfl
@[simp] theorem x_bCons {b : Bd} {bs : Bds} : bCons b bs (d :: ds) s = (match b d s with | some s' => bs ds s' | none => none) := Eq.trans rfl rfl
@[simp] theorem x_asgB {b : Bd} : fAsgB f b s = onRes ((f s).bind fEsc) (kAsgB b) := Eq.trans rfl rfl
@[simp] theorem x_lstI : fLstI f s = (f s).bind kLstI := Eq.trans rfl rfl
@[simp] theorem x_tupI : fTupI f s = (f s).bind kTupI := Eq.trans rfl rfl
@[simp] theorem x_rng1 : fRng1 fs s = (fs s).bind kRng1 := Eq.trans rfl rfl
@[simp] theorem x_rng2 : fRng2 fs s = (fs s).bind kRng2 := Eq.trans rfl rfl
@[simp] theorem x_enum : fEnum fs s = (fs s).bind kEnum := Eq.trans rfl rfl
@[simp] theorem x_zip : fZip fs s = (fs s).bind kZip := Eq.trans rfl rfl
@[simp] theorem x_for {fi : M (List PyData)} {b : Bd} : fFor fi b p s = onRes (fi s) (loopF b p) := Eq.trans rfl rfl
@[simp] theorem x_yes : fYes s = .ok true s := Eq.trans rfl rfl
@[simp] theorem x_addII {a b : Int} : addO (.int a) (.int b) = some (.val (.int (a + b))) := Eq.trans rfl rfl
@[simp] theorem x_addLL : addO (.list ds) (.list es) = if leS (ds.length + es.length) then some (.new (ds ++ es)) else none := Eq.trans rfl rfl
@[simp] theorem x_addTT : addO (.tuple ds) (.tuple es) = if leS (ds.length + es.length) then some (.val (.tuple (ds ++ es))) else none := Eq.trans rfl rfl
@[simp] theorem x_sub {a b : Int} : subO (.int a) (.int b) = some (.val (.int (a - b))) := Eq.trans rfl rfl
theorem x_mul {a b : Int} : mulO (.int a) (.int b) = if lgM a b then some (.val (.int (a * b))) else none := Eq.trans rfl rfl
@[simp] theorem x_mulL {k : Int} : mulO (.list ds) (.int k) = if inW k ∧ leS (ds.length * k.toNat) then some (.new (List.replicate k.toNat ds).flatten) else none := Eq.trans rfl rfl
theorem x_fdiv {a b : Int} : fdivO (.int a) (.int b) = if 0 < b ∧ lgD b then some (.val (.int (a / b))) else none := Eq.trans rfl rfl
theorem x_mod {a b : Int} : modO (.int a) (.int b) = if 0 < b then some (.val (.int (a % b))) else none := Eq.trans rfl rfl
theorem x_pow {a b : Int} : powO (.int a) (.int b) = if 0 ≤ b ∧ leP b ∧ lgP a then some (.val (.int (a ^ b.toNat))) else none := Eq.trans rfl rfl
@[simp] theorem x_lt {a b : Int} : ltO (.int a) (.int b) = some (.val (.bool (decide (a < b)))) := Eq.trans rfl rfl
@[simp] theorem x_le {a b : Int} : leO (.int a) (.int b) = some (.val (.bool (decide (a ≤ b)))) := Eq.trans rfl rfl
@[simp] theorem x_gt {a b : Int} : gtO (.int a) (.int b) = some (.val (.bool (decide (b < a)))) := Eq.trans rfl rfl
@[simp] theorem x_ge {a b : Int} : geO (.int a) (.int b) = some (.val (.bool (decide (b ≤ a)))) := Eq.trans rfl rfl
@[simp] theorem x_neg {a : Int} : negO (.int a) = some (.val (.int (-a))) := Eq.trans rfl rfl
@[simp] theorem x_rev : revO (.list ds) = some (.new ds.reverse) := Eq.trans rfl rfl
@[simp] theorem x_ixL {a : Int} : ixO (.list ds) (.int a) = (atI ds a).map .val := Eq.trans rfl rfl
@[simp] theorem x_ixT {a : Int} : ixO (.tuple ds) (.int a) = (atI ds a).map .val := Eq.trans rfl rfl
@[simp] theorem x_lenL : lenO [.list ds] = some (.val (.int ds.length)) := Eq.trans rfl rfl
@[simp] theorem x_lenT : lenO [.tuple ds] = some (.val (.int ds.length)) := Eq.trans rfl rfl
@[simp] theorem x_listL : listO [.list ds] = some (.new ds) := Eq.trans rfl rfl
@[simp] theorem x_listT : listO [.tuple ds] = some (.new ds) := Eq.trans rfl rfl
@[simp] theorem x_tupL : tupleO [.list ds] = some (.val (.tuple ds)) := Eq.trans rfl rfl
@[simp] theorem x_sliceL {lo hi : Option Int} : sliceO (.list ds) lo hi = some (.new (cutD ds lo hi)) := Eq.trans rfl rfl
@[simp] theorem x_sliceT {lo hi : Option Int} : sliceO (.tuple ds) lo hi = some (.val (.tuple (cutD ds lo hi))) := Eq.trans rfl rfl
@[simp] theorem x_allO : allO [.list ds] = (boolsD ds).map fun bs => .val (.bool (bs.all id)) := Eq.trans rfl rfl
@[simp] theorem x_anyO : anyO [.list ds] = (boolsD ds).map fun bs => .val (.bool (bs.any id)) := Eq.trans rfl rfl
@[simp] theorem x_sumO : sumO [.list ds] = (intsD ds).map fun bs => .val (.int bs.sum) := Eq.trans rfl rfl
@[simp] theorem x_sortedO : sortedO [.list ds] = (match intsD ds with | some ns => some (.new ((sortI ns).map .int)) | none => if canSort ds then some (.new (sortDD ds)) else none) := Eq.trans rfl rfl
@[simp] theorem x_absO {a : Int} : absO [.int a] = some (.val (.int (if a < 0 then -a else a))) := Eq.trans rfl rfl
@[simp] theorem x_intI {a : Int} : intO [.int a] = some (.val (.int a)) := Eq.trans rfl rfl
@[simp] theorem x_intB {b : Bool} : intO [.bool b] = some (.val (.int (if b then 1 else 0))) := Eq.trans rfl rfl
@[simp] theorem x_max2 {a b : Int} : maxO [.int a, .int b] = some (.val (.int (if b > a then b else a))) := Eq.trans rfl rfl
@[simp] theorem x_min2 {a b : Int} : minO [.int a, .int b] = some (.val (.int (if b < a then b else a))) := Eq.trans rfl rfl
@[simp] theorem x_isT_int {a : Int} {m : String} : isT m (.int a) = (m == "int") := by simp [isT, isN, tyN]
@[simp] theorem x_isT_bool {a : Bool} {m : String} : isT m (.bool a) = (m == "bool" || m == "int") := by simp [isT, isN, tyN]
@[simp] theorem x_isT_list {m : String} : isT m (.list ds) = (m == "list") := by simp [isT, isN, tyN]
@[simp] theorem x_isT_tuple {m : String} : isT m (.tuple ds) = (m == "tuple") := by simp [isT, isN, tyN]
@[simp] theorem x_isT_str {a : Str} {m : String} : isT m (.str a) = (m == "str") := by simp [isT, isN, tyN]
@[simp] theorem x_isT_none {m : String} : isT m .none = (m == "NoneType") := by simp [isT, isN, tyN]
@[simp] theorem x_finR_val : finR (.val d) s = some (.val d) := Eq.trans rfl rfl
@[simp] theorem x_finR_new : finR (.new ds) s = some (.new ds) := Eq.trans rfl rfl
@[simp] theorem x_finR_raw : finR (.raw v) s = some (.raw v) := Eq.trans rfl rfl
@[simp] theorem x_finR_ob {o : OD} : finR (.ob o) s = some (.ob o) := Eq.trans rfl rfl
@[simp] theorem x_finR_slot : finR (.slot i) s = (match s.d[i]? with | some (.own ds) => some (.new ds) | some (.val d) => some (.val d) | _ => none) := Eq.trans rfl rfl
theorem x_runF {m : Nat} {rs : List R} : runF n m p rs w = if rs.length = m then finF (p ⟨rs.map toSl ++ List.replicate (n - m) .no, w⟩) else .stuck := Eq.trans rfl rfl
end
/-! ### loops -/
theorem loopF_inv {b : Bd} {p : DSt → Flow} (Inv : Nat → DSt → Prop) {ds : List PyData} {s : DSt} (h0 : Inv 0 s) (step : ∀ (i : Nat) (d : PyData) (s : DSt), ds[i]? = some d → Inv i s → ∃ s1 s2, b d s = some s1 ∧ p s1 = .next s2 ∧ Inv (i + 1) s2) : ∃ s', loopF b p ds s = .next s' ∧ Inv ds.length s' := by
  induction ds generalizing s Inv with
  | nil => exact ⟨s, rfl, h0⟩
  | cons d ds ih =>
    obtain ⟨s1, s2, e1, e2, h2⟩ := step 0 d s rfl h0
    obtain ⟨s', e, h⟩ := ih (fun i => Inv (i + 1)) h2 fun i d s hi h => step (i + 1) d s (by simpa using hi) h
    refine ⟨s', ?_, h⟩
    unfold loopF
    simp only [e1, e2]
    exact e
theorem whileF_inv {c : M Bool} {p : DSt → Flow} (Inv : DSt → Prop) (m : DSt → Nat) (n : Nat) {s : DSt} (h0 : Inv s) (hn : m s < n)
    (step : ∀ s, Inv s → (∃ s1, c s = .ok true s1 ∧ ∃ s2, p s1 = .next s2 ∧ Inv s2 ∧ m s2 < m s) ∨ (c s = .ok false s)) : ∃ s', whileF c p n s = .next s' ∧ Inv s' ∧ c s' = .ok false s' := by
  induction n generalizing s with
  | zero => omega
  | succ n ih =>
    rcases step s h0 with ⟨s1, e1, s2, e2, h2, hm⟩ | e
    · obtain ⟨s', e, h⟩ := ih h2 (by omega)
      refine ⟨s', ?_, h⟩
      unfold whileF
      simp only [e1, x_onRes_ok, if_true, e2]
      exact e
    · refine ⟨s, ?_, h0, e⟩
      unfold whileF
      simp [e]
/-! ### comprehensions -/
end DL

/-! DL16: what is asked of a law's own body, and the end -/
noncomputable section
namespace DL
open PySem L2 PyProof.Rows
def PurseOk (n : Nat) (p : DSt → Flow) : Prop := ∀ (a : Addr) (ns : List Int), ns.length ≤ 63 → ∃ (cells : List Int) (s' : DSt), p ⟨.raw (.ref a) :: .own (ns.map .int) :: List.replicate (n - 2) .no, none⟩ = .ret (.new [.list (cells.map .int), .int 0]) s' ∧ cells ≠ [] ∧ cells.length ≤ 63
def LawOk (n : Nat) (p : DSt → Flow) : Prop := ∀ (a pa ca : Addr) (cells : List Int), pa ≠ ca → cells ≠ [] → cells.length ≤ 63 → ∃ s', p ⟨(Sl.raw (.ref a) :: List.replicate (n - 1) Sl.no).set 1 (.raw (.ref pa)), some (pa, ca, cells, 0)⟩ = .ret (.val (.bool true)) s'
theorem wr_mk {K : PySem.W.Frag} {h : Heap} {mg : Str → Option Value} {x : Str} {st : Stmt} {f : Addr} {oc : Value} {od an : Option Addr} {osl : Array (Option Value)} {kV doc pm cdv ct : Value} {ps : List Str} (X : K.In h) (G : h.Ns mainGlobals mg)
    (a : PySem.W.nsIn K mainGlobals x = some (some (.ref f))) (l : K.lookup f = some ⟨oc, od, .func (PySem.W.fnOf x x (defArgs st) (defBody st) (defScope st) .none kV doc pm an cdv ct), osl⟩)
    (c : PySem.W.codeIn K cdv x = true) (k : PySem.W.keepIn K (.ref f) = true) (h : ∀ (kV doc pm : Value) (an : Option Addr) (cdv ct : Value) (us : List Value), us.length = ps.length → bindArgs (PySem.W.fnOf x x (defArgs st) (defBody st) (defScope st) .none kV doc pm an cdv ct) ⟨us, []⟩ = pure (ps.zip us)) : Wr K mg x st ps :=
  ⟨f, _, fun_mk l c k, PySem.W.mg_of X G a, (fun_mk l c k).binds h⟩
theorem walk {l : PySem.W.OpenLaw} {q : Program} {loose : List Str} {XP : (Str → Option Value) → Heap → Prop} {YP : World → Heap → Prop} {d : DefRec} {K : Params → PySem.W.Frag} {k : Nat} {x : Str} (hn : l.most = some 63) (hdf : d.params.defaults = []) (hr : Room k callerA)
    (h0 : tabA = []) (hY : ∀ (w : World) (h : Heap), YP w h → (K w.params).In h)
    (F : ∀ (w : World) (mg : Str → Option Value) (fa : Addr) (h : Heap), (K w.params).In h → h.Ns mainGlobals mg → mg d.name = some (.ref fa) →
      ∃ fd : FuncData, (∀ (s : Shared) (u : Value), BindsTo s fd ⟨[u], []⟩ [(x, u)]) ∧ ∀ base : Heap, (K w.params).In base → base.Ns mainGlobals mg → FnG l.prog w (K w.params) mg base (L2.CX l.prog w) k fa fd [x] (spLaw (K w.params))) :
    PySem.W.WalkO q loose XP YP l.row.toRowW d [] (fun f vs => PySem.call f vs) := by
  refine Att.attach_call hn hdf fun w _ s1 mg mb fa _ _ _ _ a us ns G Y _ _ _ hmg scr hi hl g0 => ?_
  have KX := hY w _ Y
  obtain ⟨fd, bi, FF⟩ := F w mg fa _ KX G.T.g hmg
  exact law_goes KX G.T.g G.T.b G.T.builtins G.T.nolimit g0 scr hi (Nat.le_trans hl (by decide)) hr FF bi fun H _ hS => ⟨a, ns, rfl, hS, hl, (fun p hp => by rw [h0] at hp; cases hp), fun _ => rfl⟩
end DL

/-! DL17: data in plain words: equality, places, cuts -/
noncomputable section
namespace DL
open PySem L2
/-! ### no truth value and no dict within: == is equality -/
mutual
def calmD : PyData → Bool
  | .none | .int _ | .str _ => true
  | .list xs | .tuple xs => calmA xs
  | _ => false
def calmA : List PyData → Bool
  | [] => true
  | x :: xs => calmD x && calmA xs
end
mutual
theorem eqv_calm : ∀ d e : PyData, calmD d = true → calmD e = true → (PyData.eqv d e = true ↔ d = e)
  | .none, e, _, h => by cases e <;> simp [PyData.eqv, calmD] at *
  | .int i, e, _, h => by cases e <;> simp [PyData.eqv, calmD] at *
  | .str i, e, _, h => by cases e <;> simp [PyData.eqv, calmD] at *
  | .list xs, e, h1, h => by
    cases e <;> simp [PyData.eqv, calmD] at *
    rename_i ys
    exact eqvAll_calm xs ys h1 h
  | .tuple xs, e, h1, h => by
    cases e <;> simp [PyData.eqv, calmD] at *
    rename_i ys
    exact eqvAll_calm xs ys h1 h
  | .bool _, _, h, _ => by simp [calmD] at h
  | .dict _, _, h, _ => by simp [calmD] at h
theorem eqvAll_calm : ∀ xs ys : List PyData, calmA xs = true → calmA ys = true → (PyData.eqvAll xs ys = true ↔ xs = ys)
  | [], ys, _, _ => by cases ys <;> simp [PyData.eqvAll]
  | x :: xs, ys, h1, h => by
    cases ys with
    | nil => simp [PyData.eqvAll]
    | cons y ys =>
      simp [calmA] at h1 h
      simp [PyData.eqvAll, eqv_calm x y h1.1 h.1, eqvAll_calm xs ys h1.2 h.2]
end
theorem eqv_dec {d e : PyData} {p : Prop} [Decidable p] (h1 : calmD d = true) (h2 : calmD e = true) (h : d = e ↔ p) : PyData.eqv d e = decide p := by
  rw [Bool.eq_iff_iff, eqv_calm d e h1 h2, h]
  simp
@[simp] theorem calm_int {i : Int} : calmD (.int i) = true := rfl
@[simp] theorem calm_str {i : Str} : calmD (.str i) = true := rfl
@[simp] theorem calm_none : calmD .none = true := rfl
@[simp] theorem calm_list {xs : List PyData} : calmD (.list xs) = calmA xs := rfl
@[simp] theorem calm_tuple {xs : List PyData} : calmD (.tuple xs) = calmA xs := rfl
@[simp] theorem calm_nil : calmA [] = true := rfl
@[simp] theorem calm_cons {x : PyData} {xs : List PyData} : calmA (x :: xs) = (calmD x && calmA xs) := rfl
@[simp] theorem calm_map {α : Type} {f : α → PyData} {l : List α} : calmA (l.map f) = l.all fun a => calmD (f a) := by
  induction l with
  | nil => rfl
  | cons a l ih => simp [ih]
@[simp] theorem calm_app {xs ys : List PyData} : calmA (xs ++ ys) = (calmA xs && calmA ys) := by
  induction xs with
  | nil => simp
  | cons a l ih => simp [ih, Bool.and_assoc]
theorem depthAll_le {xs : List PyData} {n : Nat} : PyData.depthAll xs ≤ n ↔ ∀ x ∈ xs, x.depth ≤ n := by
  induction xs with
  | nil => simp [PyData.depthAll]
  | cons x xs ih => simp [PyData.depthAll, ih, Nat.max_le]
@[simp] theorem dep_int {i : Int} : (PyData.int i).depth = 0 := rfl
@[simp] theorem dep_str {i : Str} : (PyData.str i).depth = 0 := rfl
@[simp] theorem dep_bool {i : Bool} : (PyData.bool i).depth = 0 := rfl
@[simp] theorem dep_none : (PyData.none).depth = 0 := rfl
@[simp] theorem dep_list {xs : List PyData} : (PyData.list xs).depth = PyData.depthAll xs + 1 := rfl
@[simp] theorem dep_tuple {xs : List PyData} : (PyData.tuple xs).depth = PyData.depthAll xs + 1 := rfl
@[simp] theorem dep_nil : PyData.depthAll [] = 0 := rfl
@[simp] theorem dep_cons {x : PyData} {xs : List PyData} : PyData.depthAll (x :: xs) = max x.depth (PyData.depthAll xs) := rfl
@[simp] theorem dep_ints {ns : List Int} : PyData.depthAll (ns.map .int) = 0 := by
  induction ns with
  | nil => rfl
  | cons a l ih => simp [ih]
theorem eqO_calm {d e : PyData} {p : Prop} [Decidable p] (h1 : calmD d = true) (h2 : calmD e = true) (hp : d = e ↔ p) (h : d.depth ≤ 60) : eqO d e = some (.val (.bool (decide p))) := by
  unfold eqO
  rw [if_pos (by omega), eqv_dec h1 h2 hp]
theorem neO_calm {d e : PyData} {p : Prop} [Decidable p] (h1 : calmD d = true) (h2 : calmD e = true) (hp : d = e ↔ p) (h : d.depth ≤ 60) : neO d e = some (.val (.bool (decide (¬ p)))) := by
  unfold neO
  rw [if_pos (by omega), eqv_dec h1 h2 hp]
  simp
theorem int_inj : Function.Injective PyData.int := fun a b h => by cases h; rfl
@[simp] theorem map_int_inj {ns ms : List Int} : ns.map PyData.int = ms.map PyData.int ↔ ns = ms := by
  constructor
  · exact fun h => (List.map_inj_right (fun a b h => int_inj h)).mp h
  · exact fun h => by rw [h]
@[simp] theorem x_eqI {a b : Int} : eqO (.int a) (.int b) = some (.val (.bool (decide (a = b)))) := eqO_calm rfl rfl (by simp) (by simp)
@[simp] theorem x_neI {a b : Int} : neO (.int a) (.int b) = some (.val (.bool (decide (¬ a = b)))) := neO_calm rfl rfl (by simp) (by simp)
@[simp] theorem x_eqB {a b : Bool} : eqO (.bool a) (.bool b) = some (.val (.bool (a == b))) := by simp [eqO, PyData.eqv]
@[simp] theorem x_neB {a b : Bool} : neO (.bool a) (.bool b) = some (.val (.bool (a != b))) := by simp [neO, PyData.eqv, bne]
@[simp] theorem x_eqS {a b : Str} : eqO (.str a) (.str b) = some (.val (.bool (decide (a = b)))) := eqO_calm rfl rfl (by simp) (by simp)
@[simp] theorem x_neS {a b : Str} : neO (.str a) (.str b) = some (.val (.bool (decide (¬ a = b)))) := neO_calm rfl rfl (by simp) (by simp)
@[simp] theorem x_eqL {a b : List Int} : eqO (.list (a.map .int)) (.list (b.map .int)) = some (.val (.bool (decide (a = b)))) := eqO_calm (by simp) (by simp) (by simp) (by simp)
@[simp] theorem x_neL {a b : List Int} : neO (.list (a.map .int)) (.list (b.map .int)) = some (.val (.bool (decide (¬ a = b)))) := neO_calm (by simp) (by simp) (by simp) (by simp)
theorem eqvAll_nil {ds : List PyData} : PyData.eqvAll ds [] = ds.isEmpty := by cases ds <;> rfl
@[simp] theorem x_eqDn {ds : List PyData} : eqO (.list ds) (.list []) = some (.val (.bool ds.isEmpty)) := by
  unfold eqO
  rw [if_pos (by simp)]
  simp [PyData.eqv, eqvAll_nil]
@[simp] theorem x_neDn {ds : List PyData} : neO (.list ds) (.list []) = some (.val (.bool (!ds.isEmpty))) := by
  unfold neO
  rw [if_pos (by simp)]
  simp [PyData.eqv, eqvAll_nil]
@[simp] theorem x_inL {a : Int} {ns : List Int} : inO (.int a) (.list (ns.map .int)) = some (.val (.bool (decide (a ∈ ns)))) := by
  unfold inO
  simp only [items, dep_ints, dep_int]
  rw [if_pos (by decide)]
  congr 3
  rw [Bool.eq_iff_iff]
  simp [PyData.eqv]
@[simp] theorem x_notInL {a : Int} {ns : List Int} : notInO (.int a) (.list (ns.map .int)) = some (.val (.bool (decide (¬ a ∈ ns)))) := by
  have h := x_inL (a := a) (ns := ns)
  unfold inO at h
  unfold notInO
  simp only [items, dep_ints, dep_int] at h ⊢
  rw [if_pos (by decide)] at h ⊢
  injection h with h
  injection h with h
  injection h with h
  rw [h]
  simp
theorem boolsD_map' {α : Type} {f : α → Bool} {l : List α} : boolsD (l.map fun a => .bool (f a)) = some (l.map f) := by
  induction l with
  | nil => rfl
  | cons a l ih => simp [boolsD, ih]
/-! ### places -/
theorem atI_nat {α : Type} {xs : List α} {k : Nat} : atI xs (k : Int) = xs[k]? := by
  unfold atI ixN
  rw [if_pos (by omega)]
  by_cases h : k < xs.length
  · rw [if_pos (by omega)]; simp
  · rw [if_neg (by omega)]; simp; omega
theorem atI_pos {α : Type} {xs : List α} {i : Int} (h : 0 ≤ i) : atI xs i = xs[i.toNat]? := by
  obtain ⟨k, rfl⟩ := Int.eq_ofNat_of_zero_le h
  exact atI_nat
@[simp] theorem atI_0 {α : Type} {xs : List α} : atI xs 0 = xs[0]? := atI_nat (k := 0)
@[simp] theorem atI_1 {α : Type} {xs : List α} : atI xs 1 = xs[1]? := atI_nat (k := 1)
@[simp] theorem atI_2 {α : Type} {xs : List α} : atI xs 2 = xs[2]? := atI_nat (k := 2)
theorem atI_mapF {α β : Type} {f : α → β} {xs : List α} {i : Int} : atI (xs.map f) i = (atI xs i).map f := by
  unfold atI
  rw [List.length_map]
  cases ixN xs.length i with
  | none => rfl
  | some j => simp
theorem atI_some {α : Type} {xs : List α} {i : Int} (h0 : 0 ≤ i) (h : i < xs.length) : ∃ x, atI xs i = some x ∧ x ∈ xs := by
  rw [atI_pos h0]
  exact ⟨xs[i.toNat]'(by omega), List.getElem?_eq_getElem _, List.getElem_mem _⟩
/-! ### cuts -/
def cutI {α : Type} (xs : List α) (lo hi : Option Int) : List α := (xs.drop (HT.sIx xs.length 0 lo)).take (HT.sIx xs.length xs.length hi - HT.sIx xs.length 0 lo)
theorem cutD_map {α : Type} {f : α → PyData} {xs : List α} {lo hi : Option Int} : cutD (xs.map f) lo hi = (cutI xs lo hi).map f := by
  unfold cutD cutI
  simp [List.map_drop, List.map_take]
theorem sIx_nat {n d k : Nat} : HT.sIx n d (some (k : Int)) = min k n := by
  unfold HT.sIx
  simp
  try omega
theorem sIx_none {n d : Nat} : HT.sIx n d none = d := rfl
theorem cut_to {α : Type} {xs : List α} {k : Nat} : cutI xs none (some (k : Int)) = xs.take k := by
  unfold cutI
  rw [sIx_nat, sIx_none]
  simp
theorem cut_from {α : Type} {xs : List α} {k : Nat} : cutI xs (some (k : Int)) none = xs.drop k := by
  unfold cutI
  rw [sIx_nat, sIx_none]
  by_cases h : k ≤ xs.length
  · rw [Nat.min_eq_left h]
    apply List.take_of_length_le
    simp
  · rw [Nat.min_eq_right (by omega)]
    simp
    omega
/-! ### a set's length -/
theorem nub_len {ns : List Int} (h : ns.Nodup) : (nubI ns).length = ns.length := by
  unfold nubI
  have key : ∀ (i : Nat), i ≤ ns.length → PyProof.Rows.firstMet (fun i => ns.getD i 0) i = ns.take i := by
    intro i
    induction i with
    | zero => intro _; simp [PyProof.Rows.firstMet_zero]
    | succ i ih =>
      intro hi
      rw [PyProof.Rows.firstMet_succ, ih (by omega)]
      have e : ns.getD i 0 = ns[i] := by simp [List.getD_eq_getElem?_getD, List.getElem?_eq_getElem (by omega : i < ns.length)]
      rw [e, List.take_add_one, List.getElem?_eq_getElem (by omega : i < ns.length)]
      unfold PyProof.Rows.step_dedup
      have nin : ((ns.take i).any (· == ns[i])) = false := by
        rw [Bool.eq_false_iff]
        intro hc
        simp only [List.any_eq_true, beq_iff_eq, List.mem_take_iff_getElem] at hc
        obtain ⟨x, ⟨j, hj, rfl⟩, e⟩ := hc
        have := (List.getElem_inj h).mp e
        omega
      first
        | (rw [if_neg (by simp [nin])]; rfl)
        | (simp only [nin]; rfl)
        | simp_all
  rw [key _ (Nat.le_refl _), List.take_length]
/-! ### bounds -/
theorem log_lt {a : Int} {k : Nat} (h : a.natAbs < 2 ^ (k + 1)) : a.natAbs.log2 ≤ k := by
  by_cases h0 : a.natAbs = 0
  · rw [h0]; exact Nat.zero_le _
  · have := (Nat.log2_lt h0).mpr h
    omega
theorem log_small {a : Int} (h0 : -(2 ^ 200) < a) (h : a < 2 ^ 200) : a.natAbs.log2 < 200 := by
  have : a.natAbs < 2 ^ (199 + 1) := by
    have : (a.natAbs : Int) < 2 ^ 200 := by omega
    exact_mod_cast this
  have := log_lt this
  omega
theorem fdiv_ok {a b : Int} (h : 0 < b) (h2 : b < 2 ^ 200) : fdivO (.int a) (.int b) = some (.val (.int (a / b))) := by
  have := log_small (by omega) h2
  rw [x_fdiv, if_pos ⟨h, by unfold lgD; omega⟩]
theorem mod_ok {a b : Int} (h : 0 < b) : modO (.int a) (.int b) = some (.val (.int (a % b))) := by
  rw [x_mod, if_pos h]
theorem mul_ok {a b : Int} (h0 : -(2 ^ 200) < a) (h : a < 2 ^ 200) (h1 : -(2 ^ 200) < b) (h2 : b < 2 ^ 200) : mulO (.int a) (.int b) = some (.val (.int (a * b))) := by
  have := log_small h0 h
  have := log_small h1 h2
  rw [x_mul, if_pos (by unfold lgM; omega)]
@[simp] theorem pow_ok {a b : Int} (h0 : -(2 ^ 200) < a) (h : a < 2 ^ 200) (h1 : 0 ≤ b) (h2 : b ≤ 30000) : powO (.int a) (.int b) = some (.val (.int (a ^ b.toNat))) := by
  have := log_small h0 h
  rw [x_pow, if_pos ⟨h1, h2, by unfold lgP; omega⟩]
@[simp] theorem fdiv_lit {a : Int} {k : Nat} (h : 0 < k) (h2 : k < 2 ^ 200) : fdivO (.int a) (.int (no_index (OfNat.ofNat k))) = some (.val (.int (a / (OfNat.ofNat k)))) := fdiv_ok (by
    show (0 : Int) < (k : Int)
    omega) (by
    show (k : Int) < 2 ^ 200
    omega)
@[simp] theorem mod_lit {a : Int} {k : Nat} (h : 0 < k) : modO (.int a) (.int (no_index (OfNat.ofNat k))) = some (.val (.int (a % (OfNat.ofNat k)))) := mod_ok (by
    show (0 : Int) < (k : Int)
    omega)
/-! ### loops and comprehensions over the images of a list -/
theorem loopF_map {α : Type} {b : Bd} {p : DSt → Flow} {f : α → PyData} {l : List α} {s : DSt} (Inv : Nat → DSt → Prop) (h0 : Inv 0 s) (step : ∀ (i : Nat) (a : α) (s : DSt), l[i]? = some a → Inv i s → ∃ s1 s2, b (f a) s = some s1 ∧ p s1 = .next s2 ∧ Inv (i + 1) s2) : ∃ s', loopF b p (l.map f) s = .next s' ∧ Inv l.length s' := by
  have := loopF_inv (b := b) (p := p) (ds := l.map f) Inv h0 fun i d s hd h => by
    rw [List.getElem?_map] at hd
    cases e : l[i]? with
    | none => rw [e] at hd; cases hd
    | some a =>
      rw [e] at hd
      cases hd
      exact step i a s e h
  rw [List.length_map] at this
  exact this
def Nx (x : Flow) (Q : DSt → Prop) : Prop := ∃ s, x = .next s ∧ Q s
@[simp] theorem nx_next {s : DSt} {Q : DSt → Prop} : Nx (.next s) Q ↔ Q s := ⟨fun ⟨_, e, h⟩ => by cases e; exact h, fun h => ⟨s, rfl, h⟩⟩
def bod (b : Bd) (p : DSt → Flow) (d : PyData) (s : DSt) : Flow := match b d s with
  | some s' => p s'
  | none => .stuck
@[simp] theorem x_bod {b : Bd} {p : DSt → Flow} {d : PyData} {s : DSt} : bod b p d s = (match b d s with | some s' => p s' | none => .stuck) := Eq.trans rfl rfl
theorem loopN {α : Type} {b : Bd} {p : DSt → Flow} {f : α → PyData} {l : List α} {s : DSt} (Inv : Nat → DSt → Prop) (h0 : Inv 0 s) (step : ∀ (i : Nat) (a : α) (s : DSt), l[i]? = some a → a ∈ l → Inv i s → Nx (bod b p (f a) s) (Inv (i + 1))) : ∃ s', loopF b p (l.map f) s = .next s' ∧ Inv l.length s' :=
  loopF_map Inv h0 fun i a s hi h => by
    obtain ⟨s2, e, h2⟩ := step i a s hi (List.mem_of_getElem? hi) h
    unfold bod at e
    split at e
    · rename_i s1 e1
      exact ⟨s1, s2, e1, e, h2⟩
    · cases e
theorem take_succ {α : Type} {l : List α} {i : Nat} {a : α} (h : l[i]? = some a) : l.take (i + 1) = l.take i ++ [a] := by
  rw [List.take_add_one, h]
  rfl
theorem range_at {n i a : Nat} (h : (List.range n)[i]? = some a) : a = i ∧ i < n := by
  have hi : i < n := by have := (List.getElem?_eq_some_iff.mp h).1; simpa using this
  simp [hi] at h
  exact ⟨h.symm, hi⟩
theorem loopC_gen {α : Type} {b : Bd} {ft : M Bool} {fe : M R} {vs : List Nat} {s : DSt} {f : α → PyData} (sb : α → DSt) (keep : α → Bool) (g : α → PyData) (hn : noOwn vs s.d = true) : ∀ (l : List α) (acc : List PyData),
    (∀ a ∈ l, b (f a) ⟨blank vs s.d, s.w⟩ = some (sb a)) → (∀ a ∈ l, (⟨putBack vs s.d (sb a).d, (sb a).w⟩ : DSt) = s) → (∀ a ∈ l, ft (sb a) = .ok (keep a) (sb a)) → (∀ a ∈ l, keep a = true → (fe (sb a)).bind fEsc = .ok (.val (g a)) (sb a)) →
    loopC b ft fe vs (l.map f) acc s = .ok (acc ++ (l.filter keep).map g) s
  | [], acc, _, _, _, _ => by simp [loopC]
  | d :: ds, acc, h1, h2, h3, h4 => by
    have ih := fun acc => loopC_gen sb keep g hn ds acc (fun d hd => h1 d (List.mem_cons_of_mem _ hd)) (fun d hd => h2 d (List.mem_cons_of_mem _ hd)) (fun d hd => h3 d (List.mem_cons_of_mem _ hd)) (fun d hd => h4 d (List.mem_cons_of_mem _ hd))
    have e1 := h1 d List.mem_cons_self
    have e2 := h2 d List.mem_cons_self
    have e3 := h3 d List.mem_cons_self
    rw [List.map_cons]
    unfold loopC
    rw [if_pos hn, e1]
    dsimp only
    rw [e3]
    cases k : keep d with
    | false =>
      show loopC b ft fe vs (ds.map f) acc _ = _
      rw [e2, ih]
      simp [k]
    | true =>
      have e4 := h4 d List.mem_cons_self k
      show (nerr (bnd fe fEsc (sb d))).bind _ = _
      rw [bnd_app, e4]
      show loopC b ft fe vs (ds.map f) (acc ++ [g d]) _ = _
      rw [e2, ih]
      simp [k]
theorem lc_gen {α : Type} {fi : M (List PyData)} {b : Bd} {ft : M Bool} {fe : M R} {vs : List Nat} {s s1 : DSt} {f : α → PyData} {l : List α} (sb : α → DSt) (keep : α → Bool) (g : α → PyData) (hi : fi s = .ok (l.map f) s1) (hl : l.length ≤ 100000) (hn : noOwn vs s1.d = true)
    (h1 : ∀ a ∈ l, b (f a) ⟨blank vs s1.d, s1.w⟩ = some (sb a)) (h2 : ∀ a ∈ l, (⟨putBack vs s1.d (sb a).d, (sb a).w⟩ : DSt) = s1) (h3 : ∀ a ∈ l, ft (sb a) = .ok (keep a) (sb a)) (h4 : ∀ a ∈ l, keep a = true → (fe (sb a)).bind fEsc = .ok (.val (g a)) (sb a)) :
    fLc fi b ft fe vs s = .ok (.new ((l.filter keep).map g)) s1 := by
  have hl2 : leS (l.map f).length := by rw [List.length_map]; exact size_le hl
  unfold fLc
  simp only [bnd_app, hi, bind_ok, if_pos hl2]
  rw [loopC_gen sb keep g hn l [] h1 h2 h3 h4]
  simp
theorem lc_all {α : Type} {fi : M (List PyData)} {b : Bd} {fe : M R} {vs : List Nat} {s s1 : DSt} {f : α → PyData} {l : List α} (sb : α → DSt) (g : α → PyData) (hi : fi s = .ok (l.map f) s1) (hl : l.length ≤ 100000) (hn : noOwn vs s1.d = true)
    (h1 : ∀ a ∈ l, b (f a) ⟨blank vs s1.d, s1.w⟩ = some (sb a)) (h2 : ∀ a ∈ l, (⟨putBack vs s1.d (sb a).d, (sb a).w⟩ : DSt) = s1) (h4 : ∀ a ∈ l, (fe (sb a)).bind fEsc = .ok (.val (g a)) (sb a)) :
    fLc fi b fYes fe vs s = .ok (.new (l.map g)) s1 := by
  rw [lc_gen (ft := fYes) sb (fun _ => true) g hi hl hn h1 h2 (fun _ _ => rfl) (fun a ha _ => h4 a ha), List.filter_eq_self.mpr (fun _ _ => rfl)]
/-! ### loops whose states are known -/
end DL

/-! DL18: more pieces: three at once; sorted(set(..)) -/
noncomputable section
namespace DL
open PySem L2 PyProof.Rows
open Evl (Ex)
section
variable {X : Cx} {cl : String → Addr} {W : WX} {e a b c : Expr} {es : List Expr} {f g : M R} {fs : M (List R)} {pos : Pos} {p q : DSt → Flow}
def kPar3 (i j l : Nat) (rs : List R) (s : DSt) : Flow := match rs with
  | [r1, r2, r3] => if i < s.d.length ∧ j < s.d.length ∧ l < s.d.length then .next (putS l (toSl r3) (putS j (toSl r2) (putS i (toSl r1) s))) else .stuck
  | _ => .stuck
@[simp] theorem y_kPar3 (i j l : Nat) (rs : List R) (s : DSt) : kPar3 i j l rs s = (match rs with | [r1, r2, r3] => if i < s.d.length ∧ j < s.d.length ∧ l < s.d.length then .next (putS l (toSl r3) (putS j (toSl r2) (putS i (toSl r1) s))) else .stuck | _ => .stuck) := Eq.trans rfl rfl
def fPar3 (i j l : Nat) (fs : M (List R)) : DSt → Flow := fun s => onRes (fs s) (kPar3 i j l)
@[simp] theorem x_par3 {i j l : Nat} {s : DSt} : fPar3 i j l fs s = onRes (fs s) (kPar3 i j l) := Eq.trans rfl rfl
end
/-! ### loops with a state, that may hand back -/
def foldS {α β : Type} (step : β → α → Sum β R) : β → List α → Sum β R
  | x, [] => .inl x
  | x, a :: l => match step x a with
    | .inl y => foldS step y l
    | .inr r => .inr r
end DL

/-! DL19: e[:0:-1]; list(range(..)); sorted(set(..)) of ints -/
noncomputable section
namespace DL
open PySem L2 PyProof.Rows
open Evl (Ex)
/-! ### e[:0:-1] -/
section
variable {X : Cx} {cl : String → Addr} {W : WX} {e a b c : Expr} {es : List Expr} {f g : M R} {fs : M (List R)} {pos : Pos} {p q : DSt → Flow}
def tRevTo (K : PySem.W.Frag) (te : TE) : TE := fun σ H Q => te σ H fun x H1 => ∃ a xs, x = .ref a ∧ SqL K H1 a xs ∧ ∀ p, H1 p = none → Q (.ref p) (upd H1 p (.lst (xs.drop 1).reverse))
def revToO : PyData → Option R
  | .list ds => some (.new (ds.drop 1).reverse)
  | _ => none
@[simp] theorem x_revTo {ds : List PyData} : revToO (.list ds) = some (.new (ds.drop 1).reverse) := Eq.trans rfl rfl
/-! ### list(range(..)) -/
theorem rgV_rp {K : PySem.W.Frag} {G : Hp} (a b : Int) : RpAll K G (rgV a b) (rangeD a (b - a).toNat) := by
  unfold rgV rangeD
  generalize (b - a).toNat = n
  have : ∀ l : List Nat, RpAll K G (l.map fun i => V.int (a + (i : Nat))) (l.map fun i => PyData.int (a + (i : Nat))) := by
    intro l
    induction l with
    | nil => exact .nil
    | cons x l ih => exact .cons (.int _) ih
  exact this _
def rgS (a b : Int) : Prop := RgOk a b
instance (a b : Int) : Decidable (rgS a b) := Classical.propDecidable _
@[simp] theorem rgS_of {a b : Int} (h0 : 0 ≤ a) (h1 : b ≤ 16777216) (h2 : a ≤ 16777216) (h3 : 0 ≤ b) : rgS a b := RgOk.of_le h0 h1 h2 h3
def kLRng (a : Int) (r : R) (s : DSt) : Res R := match look r s with
  | some (.int b) => if rgS a b then .ok (.new (rangeD a (b - a).toNat)) s else .stuck
  | _ => .stuck
@[simp] theorem y_kLRng (a : Int) (r : R) (s : DSt) : kLRng a r s = (match look r s with | some (.int b) => if rgS a b then .ok (.new (rangeD a (b - a).toNat)) s else .stuck | _ => .stuck) := Eq.trans rfl rfl
def fLRng1 (f : M R) : M R := bnd f (kLRng 0)
@[simp] theorem x_lRng1 {f : M R} {s : DSt} : fLRng1 f s = (f s).bind (kLRng 0) := Eq.trans rfl rfl
theorem d_lRng1 {p p2 q pos : Pos} (hc : X.calm = true) (hg : Gl X "list") (hm : X.mg "list" = none) (hg2 : Gl X "range") (hm2 : X.mg "range" = none) (ha : DE X cl W a f)
    (na : starEach [a] X.env = (false, eval a X.env) :: starEach [] X.env := by rfl) (na2 : starEach [.Call (.Name "range" p2) [a] [] q] X.env = (false, eval (.Call (.Name "range" p2) [a] [] q) X.env) :: starEach [] X.env := by rfl) :
    DE X cl W (.Call (.Name "list" p) [.Call (.Name "range" p2) [a] [] q] [] pos) (fLRng1 f) := by
  refine pe_imp (pe_listRg hc hg hm (prg_1 hg2 hm2 ha na) na2) fun σ H Q ⟨G, s, S, q⟩ => ?_
  refine ⟨G, s, S, out_mono (out_bind q) fun x G1 s1 H1 st1 S1 k v rr => ?_⟩
  unfold kLRng at k
  split at k
  · rename_i n e1
    split at k
    · rename_i hz
      refine ⟨n, dq_int (look_q S1 rr e1), hz, fun q hq => ?_⟩
      obtain ⟨st2, S2, r2⟩ := new_list (H0 := H) S1 hq (rgV_rp 0 n) st1.dom
      exact k _ _ st2 S2 _ r2
    · exact k.elim
  · exact k.elim
def kLRng2 (g : M R) (r : R) (s : DSt) : Res R := match look r s with
  | some (.int a) => (g s).bind (kLRng a)
  | _ => .stuck
@[simp] theorem y_kLRng2 (g : M R) (r : R) (s : DSt) : kLRng2 g r s = (match look r s with | some (.int a) => (g s).bind (kLRng a) | _ => .stuck) := Eq.trans rfl rfl
def fLRng2 (f g : M R) : M R := bnd f (kLRng2 g)
@[simp] theorem x_lRng2 {f g : M R} {s : DSt} : fLRng2 f g s = (f s).bind (kLRng2 g) := Eq.trans rfl rfl
end
end DL

/-! DL20: str of data -/
noncomputable section
namespace DL
open PySem L2 PyProof.Rows
open Evl (Ex)
def showOk (d : PyData) : Prop := d.showable = true ∧ d.hasDict = false ∧ d.shown.length ≤ sizeLine ∧ d.depth ≤ 60
instance (d : PyData) : Decidable (showOk d) := Classical.propDecidable _
def lgT (i : Int) : Prop := i.natAbs.log2 < 1920
instance (i : Int) : Decidable (lgT i) := Classical.propDecidable _
def strO (d : PyData) : Option R := match d with
  | .int i => if lgT i then some (.val (.str (Str.ofString (toString i)))) else none
  | .str x => some (.val (.str x))
  | .list ds => if showOk (.list ds) then some (.val (.str (PyData.list ds).shown)) else none
  | .tuple ds => if showOk (.tuple ds) then some (.val (.str (PyData.tuple ds).shown)) else none
  | _ => none
def kStr (r : R) (s : DSt) : Res R := match look r s with
  | some d => (match strO d with
    | some r => .ok r s
    | none => .stuck)
  | none => .stuck
@[simp] theorem y_kStr (r : R) (s : DSt) : kStr r s = (match look r s with | some d => (match strO d with | some r => .ok r s | none => .stuck) | none => .stuck) := Eq.trans rfl rfl
def fStr (f : M R) : M R := bnd f kStr
@[simp] theorem x_str {f : M R} {s : DSt} : fStr f s = (f s).bind kStr := Eq.trans rfl rfl
section
variable {X : Cx} {cl : String → Addr} {W : WX} {e a b c : Expr} {es : List Expr} {f g : M R} {fs : M (List R)} {pos : Pos} {p q : DSt → Flow}
def rStr (K : PySem.W.Frag) : List V → Hp → VK → Prop := fun vs H Q => (∃ i, vs = [.int i] ∧ i.natAbs.log2 < 1920 ∧ Q (.str (Str.ofString (toString i))) H) ∨ (∃ x, vs = [.str x] ∧ Q (.str x) H) ∨
  ∃ a d, vs = [.ref a] ∧ Dp K H (.ref a) d ∧ showOk d ∧ Q (.str d.shown) H
theorem cr_str {k : Nat} (hr : RoomG k X.A) : CallR X (.type "str") (rStr X.K) := by
  intro pins s σ H vs us Q I rv h
  rcases h with ⟨i, rfl, hz, q⟩ | ⟨x, rfl, q⟩ | ⟨a, d, rfl, hd, ⟨h1, h2, h3, h4⟩, q⟩
  · cases rv with
    | cons h t =>
      cases t
      obtain ⟨t, rfl⟩ := h
      exact PySem.P.str_of_int hz ⟨.str _, H, I.tok _, ⟨_, rfl⟩, q⟩
  · cases rv with
    | cons h t =>
      cases t
      obtain ⟨t, rfl⟩ := h
      exact PySem.P.str_of_str ⟨.str _, H, I, ⟨_, rfl⟩, q⟩
  · cases rv with
    | cons h t =>
      cases t
      have h : _ = Value.ref a := h
      subst h
      obtain ⟨as, rd⟩ := Dp.reads I d (.ref a) (.ref a) hd rfl
      exact str_of_reads rd h1 (fun z => by rw [h2] at z; cases z) hr.quiet (by have := hr.units; omega) (fun _ _ z => z) (fun h' u tk hk => ⟨.str _, H, I.kept hk, ⟨_, rfl⟩, q⟩) h3
theorem d_strC {k : Nat} {pn : Pos} (hr : RoomG k X.A) (hg : Gl X "str") (hm : X.mg "str" = none) (ha : DE X cl W a f)
    (na : starEach [a] X.env = (false, eval a X.env) :: starEach [] X.env := by rfl) : DE X cl W (.Call (.Name "str" pn) [a] [] pos) (fStr f) := by
  refine pe_imp (pe_callTy (cr_str hr) hg hm (by decide +kernel) (pa_cons ha pa_nil na) (by decide) (by decide) na rfl) fun σ H Q ⟨G, s, S, q⟩ => ?_
  refine ⟨G, s, S, out_mono (out_bind q) fun x G1 s1 H1 st1 S1 k v rr => ?_⟩
  unfold kStr at k
  split at k
  · rename_i d e1
    have hq := look_q S1 rr e1
    split at k
    · rename_i r' eo
      unfold strO at eo
      split at eo
      · split at eo
        · rename_i hz
          cases eo
          exact .inl ⟨_, by rw [dq_int hq], hz, k G1 H1 Stp.refl S1 _ (.str _)⟩
        · cases eo
      · cases eo
        exact .inr (.inl ⟨_, by rw [dq_str hq], k G1 H1 Stp.refl S1 _ (.str _)⟩)
      · split at eo
        · rename_i hz
          cases eo
          have hp := look_ok S1 rr e1
          have hd := rp_dp _ _ hp
          obtain ⟨p, xs, rfl, _⟩ := dq_lst hq
          exact .inr (.inr ⟨p, _, rfl, hd, hz, k G1 H1 Stp.refl S1 _ (.str _)⟩)
        · cases eo
      · split at eo
        · rename_i hz
          cases eo
          have hp := look_ok S1 rr e1
          have hd := rp_dp _ _ hp
          obtain ⟨p, xs, rfl, _⟩ := dq_tup S1.gh hq
          exact .inr (.inr ⟨p, _, rfl, hd, hz, k G1 H1 Stp.refl S1 _ (.str _)⟩)
        · cases eo
      · cases eo
    · exact k.elim
  · exact k.elim
end
/-! ### how long what is shown is -/
mutual
def wgt : PyData → Nat
  | .list xs | .tuple xs => wgtA xs + 10
  | .str x => 10 * x.length + 100
  | _ => 100
def wgtA : List PyData → Nat
  | [] => 0
  | x :: xs => wgt x + 2 + wgtA xs
end
mutual
def smallD : PyData → Bool
  | .none | .bool _ => true
  | .int i => decide (i.natAbs < 10 ^ 90)
  | .list xs | .tuple xs => smallA xs
  | .str x => x.cps.toList.all fun c => decide (c < 16 ^ 8)
  | _ => false
def smallA : List PyData → Bool
  | [] => true
  | x :: xs => smallD x && smallA xs
end
theorem int_shown {i : Int} (h : i.natAbs < 10 ^ 90) : (Str.ofString (toString i)).length ≤ 91 := by
  rw [ofString_len]
  cases i with
  | ofNat m =>
    have := digits10_le (k := 90) (n := m) (by decide) h
    show (Nat.repr m).length ≤ _
    simp [Nat.repr]
    omega
  | negSucc m =>
    have := digits10_le (k := 90) (n := m + 1) (by decide) h
    show ("-" ++ Nat.repr (m + 1)).length ≤ _
    have h1 : "-".length = 1 := by first | rfl | decide
    simp [Nat.repr, h1]
    omega
theorem listText_le (ts : List Str) : (listText ts).length ≤ piled ts + 4 := by
  unfold listText
  rw [strLen_append]
  have e1 : (("]" : String) : Str).length = 1 := rfl
  have e2 : (("[" : String) : Str).length = 1 := rfl
  rw [e1]
  cases ts with
  | nil => show (("[" : String) : Str).length + 1 ≤ _; rw [e2]; omega
  | cons t ts =>
    show (textFrom (0 + 1) _ ts).length + 1 ≤ _
    rw [textFrom_length_pos _ _ _ (by decide), strLen_append, strLen_append, e2, piled_cons]
    have : (((if 0 > 0 then ", " else "" : String) : Str)).length = 0 := rfl
    omega
theorem tupleText_le (ts : List Str) : (tupleText ts).length ≤ piled ts + 4 := by
  unfold tupleText
  rw [strLen_append, strLen_append]
  have e1 : ((("(" : String) : Str)).length = 1 := rfl
  have e3 : (((if ts.length == 1 then ",)" else ")" : String) : Str)).length ≤ 2 := by split <;> decide
  rw [e1]
  by_cases h : ts = []
  · subst h
    have : (Str.join ", " []).length = 0 := rfl
    omega
  · have := join_length_add ts h
    omega
mutual
theorem shown_le : ∀ d : PyData, smallD d = true → d.shown.length ≤ wgt d ∧ d.showable = true ∧ d.hasDict = false
  | .none, _ => ⟨by show (("None" : String) : Str).length ≤ 100; decide, rfl, rfl⟩
  | .bool b, _ => ⟨by cases b <;> (first | (show (("True" : String) : Str).length ≤ 100; decide) | (show (("False" : String) : Str).length ≤ 100; decide)), rfl, rfl⟩
  | .int i, h => by
    have hi : i.natAbs < 10 ^ 90 := by simpa [smallD] using h
    refine ⟨?_, ?_, rfl⟩
    · have := int_shown hi
      show (Str.ofString (toString i)).length ≤ 100
      omega
    · simp only [PyData.showable, decide_eq_true_eq]
      exact Nat.lt_of_le_of_lt (log_lt (k := 299) (Nat.lt_of_lt_of_le hi (by decide +kernel))) (by decide)
  | .list xs, h => by
    obtain ⟨h1, h2, h3⟩ := shownA_le xs (by simpa [smallD] using h)
    refine ⟨?_, by simpa [PyData.showable] using h2, by simpa [PyData.hasDict] using h3⟩
    have := listText_le (PyData.shownAll xs)
    simp only [PyData.shown, wgt]
    omega
  | .tuple xs, h => by
    obtain ⟨h1, h2, h3⟩ := shownA_le xs (by simpa [smallD] using h)
    refine ⟨?_, by simpa [PyData.showable] using h2, by simpa [PyData.hasDict] using h3⟩
    have := tupleText_le (PyData.shownAll xs)
    simp only [PyData.shown, wgt]
    omega
  | .str x, h => by
    refine ⟨?_, rfl, rfl⟩
    have := PySem.StrLaws.reprText_len x fun c hc => by
      have h : (x.cps.toList.all fun c => decide (c < 16 ^ 8)) = true := h
      exact of_decide_eq_true (List.all_eq_true.mp h c hc)
    show (reprText x).length ≤ 10 * x.length + 100
    omega
  | .dict _, h => by simp [smallD] at h
theorem shownA_le : ∀ xs : List PyData, smallA xs = true → piled (PyData.shownAll xs) ≤ wgtA xs ∧ PyData.showableAll xs = true ∧ PyData.hasDictAll xs = false
  | [], _ => ⟨Nat.le_refl _, rfl, rfl⟩
  | x :: xs, h => by
    simp only [smallA, Bool.and_eq_true] at h
    obtain ⟨a1, a2, a3⟩ := shown_le x h.1
    obtain ⟨b1, b2, b3⟩ := shownA_le xs h.2
    simp only [PyData.shownAll, PyData.showableAll, PyData.hasDictAll, piled_cons, wgtA, a2, a3, b2, b3]
    refine ⟨by omega, rfl, rfl⟩
end
@[simp] theorem wgtA_ints {ns : List Int} : wgtA (ns.map .int) = 102 * ns.length := by
  induction ns with
  | nil => rfl
  | cons a l ih => simp only [List.map_cons, wgtA, wgt, ih, List.length_cons]; omega
@[simp] theorem wgt_list {xs : List PyData} : wgt (.list xs) = wgtA xs + 10 := rfl
@[simp] theorem wgt_tuple {xs : List PyData} : wgt (.tuple xs) = wgtA xs + 10 := rfl
@[simp] theorem wgt_int {i : Int} : wgt (.int i) = 100 := rfl
@[simp] theorem wgtA_nil : wgtA [] = 0 := rfl
@[simp] theorem wgtA_cons {x : PyData} {xs : List PyData} : wgtA (x :: xs) = wgt x + 2 + wgtA xs := rfl
@[simp] theorem small_list {xs : List PyData} : smallD (.list xs) = smallA xs := rfl
@[simp] theorem small_tuple {xs : List PyData} : smallD (.tuple xs) = smallA xs := rfl
@[simp] theorem small_nil : smallA [] = true := rfl
@[simp] theorem small_cons {x : PyData} {xs : List PyData} : smallA (x :: xs) = (smallD x && smallA xs) := rfl
end DL

/-! DL21: a call that only looks: own lists that are handed in stay own -/
noncomputable section
namespace DL
open PySem L2 PyProof.Rows
open Evl (Ex)
def atomD : PyData → Bool
  | .none | .bool _ | .int _ | .str _ => true
  | _ => false
def atomR : R → Bool
  | .val d => atomD d
  | .raw _ => false
  | .ob _ => false
  | .new ds => ds.all atomD
  | .slot _ => false
theorem rp_atom {K : PySem.W.Frag} {G G' : Hp} {v : V} {d : PyData} (h : Rp K G v d) (a : atomD d = true) : Rp K G' v d := by
  cases d <;> simp [atomD] at a <;> cases h
  · exact .non
  · exact .bl _
  · exact .int _
  · exact .str _
theorem rps_atom {K : PySem.W.Frag} {G G' : Hp} : ∀ {ds : List PyData} {vs : List V}, RpAll K G vs ds → ds.all atomD = true → RpAll K G' vs ds
  | [], _, h, _ => by cases h; exact .nil
  | d :: ds, _, h, a => by
    simp at a
    cases h with
    | cons h1 h2 => exact .cons (rp_atom h1 a.1) (rps_atom h2 (by simpa using a.2))
def seen (r : R) (s : DSt) : Option R := match r with
  | .raw v => some (.raw v)
  | .ob o => some (.ob o)
  | r => (look r s).map .val
def seens : List R → DSt → Option (List R)
  | [], _ => some []
  | r :: rs, s => match seen r s, seens rs s with
    | some a, some as => some (a :: as)
    | _, _ => none
def kUserP (F : List R → Pw → FRes) (rs : List R) (s : DSt) : Res R := match seens rs s with
  | some rs' => (match F rs' s.w with
    | .ok r w' => if atomR r = true then .ok r ⟨s.d, w'⟩ else .stuck
    | _ => .stuck)
  | none => .stuck
@[simp] theorem y_kUserP (F : List R → Pw → FRes) (rs : List R) (s : DSt) : kUserP F rs s = (match seens rs s with | some rs' => (match F rs' s.w with | .ok r w' => if atomR r = true then .ok r ⟨s.d, w'⟩ else .stuck | _ => .stuck) | none => .stuck) := Eq.trans rfl rfl
def fUserP (F : List R → Pw → FRes) (fs : M (List R)) : M R := bnd fs (kUserP F)
@[simp] theorem x_userP {F : List R → Pw → FRes} {fs : M (List R)} {s : DSt} : fUserP F fs s = (fs s).bind (kUserP F) := Eq.trans rfl rfl
@[simp] theorem x_seens_nil {s : DSt} : seens [] s = some [] := Eq.trans rfl rfl
@[simp] theorem x_seens_cons {r : R} {rs : List R} {s : DSt} : seens (r :: rs) s = (match seen r s, seens rs s with | some a, some as => some (a :: as) | _, _ => none) := Eq.trans rfl rfl
@[simp] theorem x_seen_raw {v : V} {s : DSt} : seen (.raw v) s = some (.raw v) := Eq.trans rfl rfl
@[simp] theorem x_seen_val {d : PyData} {s : DSt} : seen (.val d) s = some (.val d) := Eq.trans rfl rfl
@[simp] theorem x_seen_new {ds : List PyData} {s : DSt} : seen (.new ds) s = some (.val (.list ds)) := Eq.trans rfl rfl
@[simp] theorem x_seen_slot {i : Nat} {s : DSt} : seen (.slot i) s = (look (.slot i) s).map .val := Eq.trans rfl rfl
@[simp] theorem atomR_new {ds : List PyData} : atomR (.new ds) = ds.all atomD := rfl
@[simp] theorem atomR_val {d : PyData} : atomR (.val d) = atomD d := rfl
@[simp] theorem atomD_int {d : Int} : atomD (.int d) = true := rfl
@[simp] theorem atomD_bool {d : Bool} : atomD (.bool d) = true := rfl
@[simp] theorem atomD_str {d : Str} : atomD (.str d) = true := rfl
@[simp] theorem atomD_none : atomD .none = true := rfl
@[simp] theorem atomD_ints {ns : List Int} : (ns.map PyData.int).all atomD = true := by
  induction ns with
  | nil => rfl
  | cons a l ih => simp [ih]
section
variable {K : PySem.W.Frag} {G H G1 G' H' : Hp} {s : DSt} {σ : L2.St} {w' : Pw}
def allG (w : Pw) (H : Hp) : Hp := fun a => @ite _ (POwn w a) (Classical.propDecidable _) none (H a)
theorem allG_out {w : Pw} {a : Addr} (h : ¬ POwn w a) : allG w H a = H a := by unfold allG; rw [if_neg h]
theorem allG_in {w : Pw} {a : Addr} (h : POwn w a) : allG w H a = none := by unfold allG; rw [if_pos h]
theorem allG_up (S : SA K G s σ H) : Ex G (allG s.w H) := fun a o e => by
  rw [allG_out fun z => by rw [G_pown S.pw z] at e; cases e]
  exact S.gh a o e
theorem allG_ex {w : Pw} : Ex (allG w H) H := fun a o e => by
  by_cases h : POwn w a
  · rw [allG_in h] at e; cases e
  · rwa [allG_out h] at e
theorem allG_pw (S : SA K G s σ H) : PwOk (allG s.w H) s.w H := by
  exact pwok_to S.pw (fun _ _ h _ => h) (fun _ _ h => h) fun a h => allG_in h
theorem look_stp (S : SA K G s σ H) (f : FStp (allG s.w H) s.w H G' w' H') (pw : PwOk G' w' H') : Stp G s σ H G ⟨s.d, w'⟩ σ H' ∧ SA K G ⟨s.d, w'⟩ σ H' := by
  have own : ∀ i a, OwnAt s σ i a → H a ≠ none ∧ ¬ POwn s.w a := fun i a z => ⟨by obtain ⟨xs, e⟩ := S.ownL z; rw [e]; simp, S.pne i a z⟩
  have up : Ex G G' := fun a o e => f.ex a o (allG_up S a o e)
  have gn : ∀ a, G' a = none → G a = none := fun a h => Classical.byContradiction fun z => by
    obtain ⟨o, e⟩ := Option.ne_none_iff_exists'.mp z
    rw [up a o e] at h
    cases h
  refine ⟨⟨Ex.refl G, fun a o h n => ⟨(f.keep a o h fun z => n (.inr z)).1, rfl⟩, fun a z => ?_, f.dom, f.pw⟩, ⟨S.len, fun a o e => f.gh a o (up a o e), fun i sl h => ?_, S.inj, fun i a z => S.ownG i a z, ?_, fun i a z q => ?_⟩⟩
  · rcases z with z | z
    · exact .inl (.inl z)
    · exact (f.own a z).imp .inr id
  · have q := S.slot i sl h
    cases sl with
    | no => trivial
    | val d => exact q
    | raw v => exact q
    | ob o => exact q
    | own es =>
      obtain ⟨a, xs, e, ha, hh⟩ := q
      have e' : σ[i]? = some (some (.ref a)) := by
        cases z : σ[i]? with
        | none => rw [z] at e; cases e
        | some o => rw [z] at e; simp at e; rw [e]
      exact ⟨a, xs, e, (f.keep a _ ha (own i a ⟨⟨es, h⟩, e'⟩).2).1, hh⟩
  · exact pwok_to pw (fun _ _ h _ => h) (fun _ _ h => h) fun a h => gn a (G_pown pw h)
  · rcases f.own a q with q | q
    · exact (own i a z).2 q
    · exact (own i a z).1 q
theorem seen_ar {H0 : Hp} {v : V} {r r' : R} (S : SA K G s σ H) (h : RRel K H0 G s σ H v r) (e : seen r s = some r') : AR K (allG s.w H) v r' := by
  cases r with
  | raw u => cases e; exact h
  | ob o => cases e; exact ob_mono (allG_up S) h
  | val d =>
    cases e
    exact dp_mono (allG_up S) _ _ h
  | new ds =>
    cases e
    obtain ⟨a, xs, rfl, ha, hd, _, _, hn⟩ := h
    exact Rp.lst (by rw [allG_out fun z => hn (.inr z)]; exact ha) (dps_mono (allG_up S) _ _ hd)
  | slot i =>
    have h' : σ[i]? = some (some v) := h
    simp only [x_seen_slot, look] at e
    split at e
    · rename_i ds q
      cases e
      obtain ⟨a, xs, e1, ha, hd⟩ := S.slot i _ q
      rw [h'] at e1
      cases e1
      exact Rp.lst (by rw [allG_out (S.pne i a ⟨⟨_, q⟩, h'⟩)]; exact ha) (dps_mono (allG_up S) _ _ hd)
    · rename_i d q
      cases e
      obtain ⟨u, e1, hd⟩ := S.slot i _ q
      rw [h'] at e1
      cases e1
      exact dp_mono (allG_up S) _ _ hd
    · cases e
theorem seens_ar {H0 : Hp} (S : SA K G s σ H) : ∀ {rs rs' : List R} {vs : List V}, RRels K H0 G s σ H vs rs → seens rs s = some rs' → Paired (AR K (allG s.w H)) vs rs'
  | [], _, _, .nil, e => by cases e; exact .nil
  | r :: rs, _, _, .cons h t, e => by
    simp only [x_seens_cons] at e
    split at e
    · rename_i a as e1 e2
      cases e
      exact .cons (seen_ar S h e1) (seens_ar S t e2)
    · cases e
end
section
variable {X : Cx} {cl : String → Addr} {W : WX} {e : Expr} {es : List Expr} {fs : M (List R)} {pos : Pos}
theorem userP_reads {K : PySem.W.Frag} {F : List R → Pw → FRes} {σ : L2.St} {H : Hp} {Q : VK} (q : tD K cl W (fUserP F fs) σ H Q) : tCallS (spF K cl F) (WE W) (tA K cl W fs) σ H Q := by
  obtain ⟨G, s, S, q⟩ := q
  refine ⟨G, s, S, out_mono (out_bind q) fun rs G1 s1 H1 st1 S1 k vs hv => ?_⟩
  unfold kUserP at k
  split at k
  · rename_i rs' e1
    refine ⟨allG s1.w H1, rs', s1.w, allG_ex, seens_ar S1 hv e1, allG_pw S1, ?_⟩
    cases z : F rs' s1.w with
    | ok r w' =>
      rw [z] at k
      dsimp only at k
      split at k
      · rename_i ha
        intro v G' H' f pw fr
        obtain ⟨st, S'⟩ := look_stp S1 f pw
        refine k G1 H' st S' v ?_
        cases r with
        | val d => exact rp_atom fr ha
        | raw u => simp [atomR] at ha
        | ob u => simp [atomR] at ha
        | slot i => exact fr.elim
        | new ds =>
          obtain ⟨a, xs, e, ha2, hd, hg, h0, hn⟩ := fr
          refine ⟨a, xs, e, ha2, rps_atom hd ha, ?_, Classical.byContradiction fun z => st1.dom a z h0, fun z => ?_⟩
          · refine Classical.byContradiction fun z => ?_
            obtain ⟨o, eo⟩ := Option.ne_none_iff_exists'.mp z
            rw [S1.gh a o eo] at h0
            cases h0
          · rcases z with ⟨i, z⟩ | z
            · obtain ⟨ys, e2⟩ := S1.ownL z
              rw [h0] at e2; cases e2
            · exact hn z
      · exact k.elim
    | err x w' => rw [z] at k; exact k.elim
    | stuck => rw [z] at k; exact k
  · exact k.elim
theorem d_calP {F : List R → Pw → FRes} {k : Nat} {ps : List Str} {x : Str} {p : Pos} (h : Cal X.prog X.w X.K X.mg X.base cl x k ps F) (hr : RoomG k X.A) (hx : ∀ σ, PassesAt (L2.CX X.prog X.w) X σ (WE W σ)) (ha : DA X cl W (e :: es) fs) (hg : Gl X x := by rfl) (hdb : (x == ("__debug__" : Str)) = false := by decide)
    (he : starEach (e :: es) X.env = (false, eval e X.env) :: starEach es X.env := by rfl) (hpl : (backTo pos (starEach es X.env)).any (·.1) = false := by rfl) : DE X cl W (.Call (.Name x p) (e :: es) [] pos) (fUserP F fs) := by
  obtain ⟨f, fd, ok, g, kp, b⟩ := h
  exact pe_imp (pe_callG ok hr hg g kp b hx ha hdb he hpl) fun σ H Q q => userP_reads q
end
end DL

/-! DL22: comprehensions that draw -/
noncomputable section
namespace DL
open PySem L2
end DL

/-! DL23: dicts that are known -/
noncomputable section
namespace DL
open PySem L2 PyProof.Rows
open Evl (Ex)
def keyD : PyData → Option Key
  | .int i => some (.inl i)
  | .str x => some (.inr x)
  | _ => none
def valD {κ : Type} [DecidableEq κ] (kvs : List (κ × PyData)) (k : κ) : Option PyData := (kvs.find? fun kv => decide (kv.1 = k)).map (·.2)
theorem valD_cons {κ : Type} [DecidableEq κ] {k j : κ} {d : PyData} {kvs : List (κ × PyData)} : valD ((k, d) :: kvs) j = if k = j then some d else valD kvs j := by
  unfold valD
  by_cases e : k = j <;> simp [List.find?_cons, e]
def fDictC (kvs : List (Str × Int)) : M R := ret (.ob (.dict (kvs.map fun p => (.inr p.1, .int p.2))))
def kDGet (g : M R) (x : R) (s : DSt) : Res R := match x with
  | .ob (.dict kvs) => (g s).bind fun y s2 => match look y s2 with
    | some d => match keyD d with
      | some k => match valD kvs k with
        | some e => .ok (.val e) s2
        | none => .stuck
      | none => .stuck
    | none => .stuck
  | _ => .stuck
def fDGet (f g : M R) : M R := bnd f (kDGet g)
def kDIn (neg : Bool) (y x : R) (s : DSt) : Res R := match look y s, x with
  | some d, .ob (.dict kvs) => match keyD d with
    | some k => .ok (.val (.bool (if neg then !(valD kvs k).isSome else (valD kvs k).isSome))) s
    | none => .stuck
  | _, _ => .stuck
def fDIn (neg : Bool) (f g : M R) : M R := bnd f fun y => bnd g fun x => kDIn neg y x
section
variable {X : Cx} {cl : String → Addr} {W : WX} {e a b : Expr} {f g : M R} {pos : Pos}
end
theorem ss_nev {X : Cx} {cl : String → Addr} {W : WX} {sts : List Stmt} : DSs X cl W sts fnever := ⟨fun _ _ _ _ _ _ ⟨_, _, _, h⟩ => h.elim⟩
/-! ### a < b < c -/
def kChain3 (o' : R → R → M R) (h : M R) (y : R) (z : R) (s : DSt) : Res R := match look z s with
  | some (.bool true) => (h s).bind fun w => o' y w
  | some (.bool false) => .ok (.val (.bool false)) s
  | _ => .stuck
def kChain2 (o o' : R → R → M R) (h : M R) (x : R) (y : R) (s : DSt) : Res R := (o x y s).bind (kChain3 o' h y)
def kChain1 (o o' : R → R → M R) (g h : M R) (x : R) (s : DSt) : Res R := (g s).bind (kChain2 o o' h x)
def fChain (o o' : R → R → M R) (f g h : M R) : M R := bnd f (kChain1 o o' g h)
section
variable {X : Cx} {cl : String → Addr} {W : WX} {e a b c : Expr} {f g h : M R} {pos : Pos}
end
section
variable {s : DSt} {f g : M R} {kvs : List (Key × PyData)} {x y : R} {d : PyData} {z : Str} {i : Int}
@[simp] theorem x_dictC {ws : List (Str × Int)} : fDictC ws s = .ok (.ob (.dict (ws.map fun p => (.inr p.1, .int p.2)))) s := Eq.trans rfl rfl
def kDGet2 (kvs : List (Key × PyData)) (y : R) (s2 : DSt) : Res R := match look y s2 with
    | some d => match keyD d with
      | some k => match valD kvs k with
        | some e => .ok (.val e) s2
        | none => .stuck
      | none => .stuck
    | none => .stuck
@[simp] theorem y_kDGet2 {s2 : DSt} : kDGet2 kvs y s2 = (match look y s2 with
    | some d => match keyD d with
      | some k => match valD kvs k with
        | some e => .ok (.val e) s2
        | none => .stuck
      | none => .stuck
    | none => .stuck) := Eq.trans rfl rfl
@[simp] theorem y_kDGet : kDGet g (.ob (.dict kvs)) s = (g s).bind (kDGet2 kvs) := Eq.trans rfl rfl
@[simp] theorem x_dget : fDGet f g s = (f s).bind (kDGet g) := Eq.trans rfl rfl
@[simp] theorem x_chain {o o' : R → R → M R} {h : M R} : fChain o o' f g h s = (f s).bind (kChain1 o o' g h) := Eq.trans rfl rfl
@[simp] theorem y_kChain1 {o o' : R → R → M R} {h : M R} : kChain1 o o' g h x s = (g s).bind (kChain2 o o' h x) := Eq.trans rfl rfl
@[simp] theorem y_kChain2 {o o' : R → R → M R} {h : M R} : kChain2 o o' h x y s = (o x y s).bind (kChain3 o' h y) := Eq.trans rfl rfl
def kChain4 (o' : R → R → M R) (y w : R) (s : DSt) : Res R := o' y w s
@[simp] theorem y_kChain4 {o' : R → R → M R} : kChain4 o' x y s = o' x y s := Eq.trans rfl rfl
@[simp] theorem y_kChain3 {o' : R → R → M R} {h : M R} {z : Bool} : kChain3 o' h y (.val (.bool z)) s = if z = true then (h s).bind (kChain4 o' y) else .ok (.val (.bool false)) s := by cases z <;> rfl
def kDIn1 (neg : Bool) (g : M R) (y : R) (s : DSt) : Res R := (g s).bind (kDIn neg y)
@[simp] theorem y_kDIn1 {neg : Bool} : kDIn1 neg g y s = (g s).bind (kDIn neg y) := Eq.trans rfl rfl
@[simp] theorem y_kDIn {neg : Bool} : kDIn neg y (.ob (.dict kvs)) s = (match look y s with
  | some d => match keyD d with
    | some k => .ok (.val (.bool (if neg then !(valD kvs k).isSome else (valD kvs k).isSome))) s
    | none => .stuck
  | none => .stuck) := by
  unfold kDIn
  cases look y s <;> rfl
@[simp] theorem x_dIn {neg : Bool} : fDIn neg f g s = (f s).bind (kDIn1 neg g) := Eq.trans rfl rfl
@[simp] theorem x_keyI : keyD (.int i) = some (.inl i) := Eq.trans rfl rfl
@[simp] theorem x_keyS : keyD (.str z) = some (.inr z) := Eq.trans rfl rfl
@[simp] theorem x_valD_nil {k : Key} : valD [] k = none := Eq.trans rfl rfl
@[simp] theorem x_valD_cons {k j : Key} : valD ((k, d) :: kvs) j = if k = j then some d else valD kvs j := valD_cons
end
end DL

/-! DL24: errors raised, caught and kept -/
noncomputable section
namespace DL
open PySem L2 PyProof.Rows PySem.Spec
open Evl (Ex)
/-! ### raise -/
def fRaise (n : String) : DSt → Flow := fun s => .err ⟨n, none⟩ s
section
variable {X : Cx} {cl : String → Addr} {W : WX} {pos : Pos}
theorem s_raise {x m : Str} {n : String} {C : Addr} {j : Nat} {p p2 pos' : Pos} (hc : X.calm = true) (tk : Takes X W) (hC : cl n = C) (q : PySem.W.excIn X.K C [.type "ValueError", .type "Exception", .type "BaseException", .type "object"] "ValueError.__new__" = true) (gC : X.mg x = some (.ref C)) (kC : PySem.W.keepIn X.K (.ref C) = true)
    (h1 : PySem.W.subIn X.K (.ref C) (.type "BaseException") = some true) (h2 : PySem.W.typeIn X.K (.ref C) = some (.type "type")) (hg : Gl X x) (hdb : (x == ("__debug__" : Str)) = false := by decide) :
    DS X cl W (.Raise (some (.Call (.Name x p) [.Constant (.str m) j p2] [] pos')) none pos) (fRaise n) :=
  ps_imp (ps_raise hc tk (pmk_own PySem.F.excBase_ValueError q gC kC (raises_own h1 h2) hg hdb)) fun D σ H ⟨G, s, S, h⟩ => h _ _ G σ H Stp.refl S ⟨by rw [hC], rfl⟩
end
/-! ### what is caught is kept: it is a thing of the heap from then on -/
section
variable {X : Cx} {pins : List (Addr × Obj)} {σ : L2.St} {H : Hp} {s sI : Shared} {a : Addr} {cls : Value} {d : Option Addr}
theorem exc_ok {P : Program} {w : World} {h : Heap} {oe : Obj} (e : h.get? a = some oe) (z : Zc cls d oe) (hv : ∃ vs, oe.data = .fields vs) : ObjOk P w H h a (excO a cls d) :=
  ⟨⟨oe, e, z, hv⟩, ⟨oe, e⟩, fun h1 h2 ⟨o, e1, z1, v1⟩ k => ⟨o, k o e1, z1, v1⟩⟩
theorem inv_more {φ : Heap → Prop} (I : Inv X pins σ H s) (n0 : X.s_0.heap.get? a = none) (hn : H a = none) (new : ∀ H', ObjOk X.prog X.w H' s.heap a (.ext φ)) (hp : ∀ p ∈ X.pn ++ pins, p.1 ≠ a) (nL : a ≠ X.env.locals)
    (nC : ∀ x c, X.env.cells.lookup x = some c → c ≠ a) : Inv X pins σ (upd H a (.ext φ)) s := by
  have ne0 : ∀ b o, X.s_0.heap.get? b = some o → b ≠ a := fun b o e z => by rw [z, n0] at e; cases e
  have neH : ∀ b o, H b = some o → b ≠ a := fun b o e z => by rw [z, hn] at e; cases e
  refine ⟨I.ok, I.os, I.bare, ⟨I.base.keep, I.base.slot, fun b o e z x => ?_, I.base.there, fun b xs e => ?_, fun b o u e => ?_, fun b ps e => ?_⟩, I.loc, I.cell, ?_, fun x c e => ?_, fun p hm => ?_, I.hok.laidN (fun _ _ q => q) hn (new _), I.len⟩
  · rw [upd_ne (ne0 b o e)]; exact I.base.free b o e z x
  · have := I.base.tups b xs e
    rw [upd_ne (neH _ _ this)]; exact this
  · have := I.base.frzs b o u e
    rw [upd_ne (neH _ _ this)]; exact this
  · obtain ⟨more, q⟩ := I.base.tbls b ps e
    exact ⟨more, by rw [upd_ne (neH _ _ q)]; exact q⟩
  · rw [upd_ne nL.symm]; exact I.free
  · rw [upd_ne (nC x c e)]; exact I.freeC x c e
  · obtain ⟨h1, h2, h3⟩ := I.pin p hm
    exact ⟨h1, by rw [upd_ne (hp p hm)]; exact h2, h3⟩
end
def wKeep (K : PySem.W.Frag) (c : Value) (i j : Nat) (Wout : WX) (D : Ends) : WX := fun cls d σ H =>
  ∃ b, PySem.W.exmOne K cls c = some b ∧ (b = true → ∀ a, H a = none → i < σ.length ∧ D.nx (((σ.set i (some (.ref a))).set j (some (.ref a))).set i none) (upd H a (excO a cls d))) ∧ (b = false → Wout cls d σ H)
section
variable {X : Cx} {x n : Str} {c : Value} {i j : Nat} {body suite : List Stmt} {b₀ : Stmt} {np pos pos' : Pos} {tb : WX → TS} {Wout : WX}
theorem try_keep (hs : X.stack = X.env :: X.outer) (hf : X.env.frame = some X.env.locals) (hx : X.ex = []) (hN : X.N.Nodup) (hi : X.N[i]? = some n) (hln : X.env.kindOf n = some .local) (hc : Names X x c) (tk : Takes X Wout)
    (hb : ∀ (W : WX) (pn : List (Addr × Obj)) (xe : Value → Shared → Prop), Takes (X.tr pn xe) W → PassesOwn (model X.prog X.w) X.A X.env xe → PSs (X.tr pn xe) body (tb W))
    (hsu : ∀ (a : Addr) (oe : Obj) (pn : List (Addr × Obj)), PSs (X.suite a ((a, oe) :: pn)) (b₀ :: suite) (tAsg (tVar i) (gName j))) :
    PS X (.Try body [.ExceptHandler (some (.Name x np)) (some n) (b₀ :: suite) pos'] [] [] pos) (fun D σ H => tb (wKeep X.K c i j Wout D) D σ H) := by
  refine ⟨fun pins s σ H D I h => ?_⟩
  have ok := I.ok
  have hfr : X.A.frames = some (X.env :: X.outer) := by rw [ok.frames, hs]
  have hloc : Loc X.env.scope n := .inl hln
  refine wpAny_Try_except ?_
  refine wpAny_mono ((hb (wKeep X.K c i j Wout D) (X.pn ++ pins) (fun e s₁ => wpAny (model X.prog X.w) X.A (noteFrame e X.env) (fun _ s₂ => wpAny (model X.prog X.w) X.A (setFlight e none) (fun _ s₃ =>
    wpAny (model X.prog X.w) X.A (handleBy e X.env [.ExceptHandler (some (.Name x np)) (some n) (b₀ :: suite) pos']) (SP X pins D) X.xe s₃) X.xe s₂) X.xe s₁) (fun u s' xx => ?_) PassesOwn.looking).run [] s σ H D (I.toTry _) h) (fun f s1 hsp => ?_) (fun e s1 he => he)
  · obtain ⟨a, B, sI, pins', σ', H', cls, d, rfl, J', nb, up, sky, na, os, ag, b, hb1, hyes, hno⟩ := xx
    have J : Inv X pins σ' H' sI := J'.ofTry ok
    have sky' : Sky B (X.env :: X.outer) a (Zc cls d) X.env.locals s'.heap := by rw [← hs]; exact sky
    show wpAny _ X.A (noteFrame (.ref a) X.env) _ _ _
    refine Sky.land Zc.steady hfr hf sky' fun h3 fl3 up3 => ?_
    have J3 : Inv X pins σ' H' { s' with heap := h3 } := J.landed nb fl3.1 (up.trans up3) os ag
    obtain ⟨oe3, vs3, he3, hz3, hd3⟩ := fl3.there
    have nfr : a ∉ frs (X.env :: X.outer) := fun hm => by
      obtain ⟨_, o', e', hnf⟩ := fl3.2.2.1.mem hm
      rw [he3] at e'; cases e'
      exact hnf _ hd3
    have nL : a ≠ X.env.locals := fun z => nfr (List.mem_filterMap.mpr ⟨X.env, List.mem_cons_self, by rw [hf, z]⟩)
    have nF : a ∉ X.fs := fun hm => by
      obtain ⟨e, he, q⟩ := List.mem_filterMap.mp hm
      exact nfr (List.mem_filterMap.mpr ⟨e, List.mem_cons_of_mem _ he, q⟩)
    -- the exception is no thing of the state without it
    have nI : sI.heap.get? a = none := by
      cases e : sI.heap.get? a with
      | none => rfl
      | some o =>
        have z := nb a o e (by rw [hs]; exact nfr)
        rw [fl3.2.1] at z; cases z
    have n0 : X.s_0.heap.get? a = none := by
      cases e : X.s_0.heap.get? a with
      | none => rfl
      | some o =>
        obtain ⟨o', z⟩ := J.base.there a o e (by rw [hx]; exact fun z => nomatch z)
        rw [nI] at z; cases z
    have npin : ∀ p ∈ X.pn ++ pins, p.1 ≠ a := fun p hp z => by
      have := (J.pin p hp).1
      rw [z, nI] at this; cases this
    have ncell : ∀ y k, X.env.cells.lookup y = some k → k ≠ a := fun y k e z => by
      obtain ⟨v, q⟩ := J.cell y k e
      obtain ⟨o, q, _⟩ := q
      rw [z, nI] at q; cases q
    have S3 := J3.suite he3 hd3 na nL nF
    refine wpAny_handleBy_cons (codeAny_handlers_test ?_) (by intro q; cases q)
    have LT : PySem.W.Looks (model X.prog X.w) h3 (typeOf (.ref a)) cls := fun A Q E s k q => wpAny_typeOf_ref (k _ _ he3) (by rw [hz3.1]; exact q)
    have LM := PySem.W.exm_one (M := model X.prog X.w) (J3.kIn) LT hb1
    have test : ∀ {Q : Value → Shared → Prop} {E : Value → Shared → Prop}, Q c { s' with heap := h3 } → wpAny (model X.prog X.w) (X.A.mark (some (.ref a))) (eval (.Name x np) X.env) Q E { s' with heap := h3 } := fun {Q E} q => by
      obtain ⟨hg, hdbg, hm | ⟨hm, hv, hnn⟩⟩ := hc
      · exact ld_glob (X := X.suite a ((a, oe3) :: (X.pn ++ pins))) S3 hg hm q hdbg
      · exact ld_blt (X := X.suite a ((a, oe3) :: (X.pn ++ pins))) S3 hg hm hv q hnn hdbg
    refine test (LM.here ?_)
    cases b with
    | true =>
      refine codeAny_handlers_suite_as ?_
      refine HandSPX.lands_againZ fl3 fun h4 fl4 up4 => ?_
      have J4 : Inv X pins σ' H' { s' with heap := h4 } := J.landed nb fl4.1 ((up.trans up3).trans up4) os ag
      obtain ⟨oe4, vs4, he4, hz4, hd4⟩ := fl4.there
      have S4 := J4.suite he4 hd4 na nL nF
      obtain ⟨il, hnx⟩ := hyes rfl a na
      refine store_ok (X := X.suite a ((a, oe4) :: (X.pn ++ pins))) (v := .ref a) S4 hN hi hloc rfl (fun s5 S5 => ?_) (.inr hln)
      refine wpAny_mono ((hsu a oe4 (X.pn ++ pins)).run [] s5 _ H' { nx := fun σ6 H6 => σ6 = (σ'.set i (some (.ref a))).set j (some (.ref a)) ∧ H6 = H', rt := fun _ _ => False, bk := fun _ _ => False, ct := fun _ _ => False } S5
        ⟨.ref a, List.getElem?_set_self il, rfl, rfl⟩) (fun f s6 hsp => ?_) (fun _ _ z => False.elim z)
      cases f with
      | next =>
        obtain ⟨σ6, H6, S6, rfl, rfl⟩ := hsp
        have P6 := (S6.pin (a, oe4) (List.mem_append_left _ List.mem_cons_self)).1
        have M6 : Inv X pins _ (upd H6 a (excO a cls d)) s6 := inv_more (S6.unsuite ok) n0 na (fun _ => exc_ok P6 hz4 ⟨_, hd4⟩) npin nL ncell
        exact gone_ok M6 hN hi hln fun s7 J7 => ⟨_, _, J7, hnx⟩
      | brk => obtain ⟨_, _, _, z⟩ := hsp; exact z.elim
      | cont => obtain ⟨_, _, _, z⟩ := hsp; exact z.elim
      | ret u => obtain ⟨_, _, _, _, _, z⟩ := hsp; exact z.elim
    | false =>
      show wpAny _ X.A (handleBy (.ref a) X.env []) _ _ _
      refine wpAny_handleBy_nil ?_
      obtain ⟨k1, k2, k3, oe, vs, T, oT, ts', he, hz, hd, h1, hr⟩ := id fl3
      unfold PySem.passOn
      refine wpAny_bind (wpAny_field he hd h1 ?_)
      rw [if_neg (show ¬ ((Value.ref T == Value.none) = true) from by simp)]
      have fin : wpAny (model X.prog X.w) X.A (setFlight (.ref a) X.env.frame) (fun _ s4 => wpAny (model X.prog X.w) X.A (throw (.ref a) : Sem PySem.Flow) (SP X pins D) X.xe s4) X.xe { s' with heap := h3 } := by
        rw [hf]
        refine HandSPX.setFlight_upZ fl3 fun h4 hh4 up4 => wpAny_throw (tk _ _ ?_)
        exact ⟨a, B, sI, pins, σ', H', cls, d, rfl, J, nb, (up.trans up3).trans up4, .inr (.inr (by rw [hs]; exact hh4)), na, os, ag, hno rfl⟩
      first
        | exact wpAny_bind (wpAny_pure (wpAny_bind fin))
        | exact wpAny_bind fin
  · cases f with
    | next =>
      obtain ⟨σ', H', J', q⟩ := hsp
      exact wpAny_execs_nil ⟨σ', H', J'.ofTry ok, q⟩
    | brk =>
      obtain ⟨σ', H', J', q⟩ := hsp
      exact ⟨σ', H', J'.ofTry ok, q⟩
    | cont =>
      obtain ⟨σ', H', J', q⟩ := hsp
      exact ⟨σ', H', J'.ofTry ok, q⟩
    | ret u =>
      obtain ⟨v, σ', H', J', r, q⟩ := hsp
      exact ⟨v, σ', H', J'.ofTry ok, r, q⟩
end
/-! ### try: .. except FolkError as e: caught = e -/
def isCaught (ns : List String) (x : Exn) : Bool := ns.contains x.name && (match x.arg with | none => true | some _ => false)
def fTry (ns : List String) (i j : Nat) (p : DSt → Flow) : DSt → Flow := fun s => match p s with
  | .err x s' => if isCaught ns x = true ∧ i < s'.d.length ∧ j < s'.d.length ∧ i ≠ j then .next (putS i .no (putS j (.ob (.exc x)) s')) else .stuck
  | fl => fl
section
variable {K : PySem.W.Frag} {G H G0 H0 : Hp} {s s0 : DSt} {σ σ0 : L2.St}
theorem own_no {i j : Nat} {v : Option V} {a : Addr} (hi : i < s.d.length) : OwnAt (putS i .no s) (σ.set i v) j a → j ≠ i ∧ OwnAt s σ j a := by
  rintro ⟨⟨ds, e⟩, h⟩
  by_cases q : j = i
  · subst q
    unfold putS at e
    simp only [List.getElem?_set_self hi] at e
    cases e
  · unfold putS at e
    simp only [List.getElem?_set_ne (Ne.symm q)] at e
    rw [List.getElem?_set_ne (Ne.symm q)] at h
    exact ⟨q, ⟨ds, e⟩, h⟩
theorem no_ok {i : Nat} {v : Option V} (S : SA K G s σ H) (hi : i < s.d.length) : SA K G (putS i .no s) (σ.set i v) H := by
  refine ⟨by simp [putS, S.len], S.gh, fun j sl h => ?_, fun j k a h1 h2 => S.inj j k a (own_no hi h1).2 (own_no hi h2).2, fun j a h => S.ownG j a (own_no hi h).2, S.pw, fun j a h => S.pne j a (own_no hi h).2⟩
  by_cases q : j = i
  · subst q
    simp only [putS, List.getElem?_set_self hi] at h
    cases h
    trivial
  · simp only [putS, List.getElem?_set_ne (Ne.symm q)] at h
    rw [List.getElem?_set_ne (Ne.symm q)]
    exact S.slot j sl h
theorem no_stp {i : Nat} {v : Option V} (st : Stp G0 s0 σ0 H0 G s σ H) (hi : i < s.d.length) : Stp G0 s0 σ0 H0 G (putS i .no s) (σ.set i v) H := by
  refine ⟨st.ex, st.keep, fun a z => ?_, st.dom, st.pw⟩
  rcases z with ⟨j, z⟩ | z
  · exact st.own a (.inl ⟨j, (own_no hi z).2⟩)
  · exact st.own a (.inr z)
end
theorem set_thrice {σ : L2.St} {i j : Nat} {u v : Option V} (h : i ≠ j) : ((σ.set i u).set j v).set i none = (σ.set j v).set i none := by
  apply List.ext_getElem?
  intro k
  by_cases q : k = i
  · subst q
    simp [List.getElem?_set]
  · simp [List.getElem?_set_ne (Ne.symm q)]
    by_cases q2 : k = j
    · subst q2; simp [List.getElem?_set]
    · simp [List.getElem?_set_ne (Ne.symm q2), List.getElem?_set_ne (Ne.symm q)]
section
variable {X : Cx} {cl : String → Addr} {W : WX} {x n : Str} {C : Addr} {i j : Nat} {body suite : List Stmt} {b₀ : Stmt} {np pos pos' : Pos} {p : DSt → Flow}
theorem try_out {K : PySem.W.Frag} {ns : List String} {G H : Hp} {s : DSt} {σ : L2.St} {D : Ends} (hcl : cl = clOf K) (hex : ∀ m ∈ ns, PySem.W.exmOne K (.ref (clOf K m)) (.ref C) = some true) (h : FOut K cl W G s σ H (fTry ns i j p s) D) : FOut K cl (wKeep K (.ref C) i j W D) G s σ H (p s) D := by
  unfold fTry at h
  cases e : p s with
  | next s' => rw [e] at h; exact h
  | brk s' => rw [e] at h; exact h
  | cnt s' => rw [e] at h; exact h
  | ret r s' => rw [e] at h; exact h
  | stuck => rw [e] at h; exact h
  | err z s' =>
    rw [e] at h
    dsimp only at h
    split at h
    · rename_i hh
      obtain ⟨h1, hi, hj, hij⟩ := hh
      obtain ⟨zn, za⟩ := z
      unfold isCaught at h1
      simp only [Bool.and_eq_true, List.contains_iff_mem] at h1
      obtain ⟨hm, ha0⟩ := h1
      have za0 : za = none := by
        cases za with
        | none => rfl
        | some _ => cases ha0
      subst za0
      intro cls d G' σ' H' st S' xr
      obtain ⟨ec, ed⟩ := xr
      have ed : d = none := ed
      subst ec ed hcl
      refine ⟨true, hex zn hm, fun _ a ha => ⟨by rw [← S'.len]; exact hi, ?_⟩, fun q => nomatch q⟩
      rw [set_thrice hij]
      obtain ⟨st2, S2⟩ := new_known (excO a (.ref (clOf K zn)) none) S' ha
      have S3 := put_ok (x := .ob (.exc ⟨zn, none⟩)) (v := .ref a) S2 hj ⟨_, rfl, a, none, rfl, upd_same, rfl⟩ (fun _ _ q => nomatch q)
      have st3 := put_stp (x := .ob (.exc ⟨zn, none⟩)) (v := .ref a) S2 (st.trans st2) hj (fun _ _ q => nomatch q)
      have hi3 : i < (putS j (.ob (.exc ⟨zn, none⟩)) s').d.length := by simpa [putS] using hi
      exact h _ _ _ (no_stp st3 hi3) (no_ok S3 hi3)
    · exact h.elim
theorem s_try {ns : List String} (hcl : cl = clOf X.K) (hex : ∀ m ∈ ns, PySem.W.exmOne X.K (.ref (clOf X.K m)) (.ref C) = some true) (hs : X.stack = X.env :: X.outer) (hf : X.env.frame = some X.env.locals) (hx : X.ex = []) (hN : X.N.Nodup) (hi : X.N[i]? = some n) (hln : X.env.kindOf n = some .local) (hc : Names X x (.ref C)) (tk : Takes X W)
    (hb : ∀ (W : WX) (pn : List (Addr × Obj)) (xe : Value → Shared → Prop), Takes (X.tr pn xe) W → PassesOwn (model X.prog X.w) X.A X.env xe → DSs (X.tr pn xe) cl W body p)
    (hsu : ∀ (a : Addr) (oe : Obj) (pn : List (Addr × Obj)), PSs (X.suite a ((a, oe) :: pn)) (b₀ :: suite) (tAsg (tVar i) (gName j))) :
    DS X cl W (.Try body [.ExceptHandler (some (.Name x np)) (some n) (b₀ :: suite) pos'] [] [] pos) (fTry ns i j p) :=
  ps_imp (try_keep (tb := fun W => tS X.K cl W p) hs hf hx hN hi hln hc tk hb hsu) fun D σ H ⟨G, s, S, h⟩ => ⟨G, s, S, try_out hcl hex h⟩
end
/-! ### isinstance of what was caught -/
def rIsX (K : PySem.W.Frag) : List V → Hp → VK → Prop := fun xs H Q => ∃ (a D : Addr) (c : V) (cv : Value) (b : Bool), xs = [.ref a, c] ∧ H a = some (excO a (.ref D) none) ∧ ExcC K D ∧ ClsV c cv ∧ PySem.W.kitOne K (.ref D) cv = some b ∧ Q (.bl b) H
theorem call_isX {X : Cx} : CallR X (.builtin "isinstance") (rIsX X.K) := by
  intro pins s σ H xs us Q I r h
  obtain ⟨a, D, c, cv, b, rfl, ha, C, hcv, e, q⟩ := h
  obtain ⟨u1, u2, rfl, r1, r2⟩ := vals2 r
  cases (show u1 = Value.ref a from r1)
  have ec := hcv.eq r2
  subst ec
  obtain ⟨⟨oe, h1, z, vs, hv⟩, _⟩ := (show ObjOk X.prog X.w H s.heap a (excO a (.ref D) none) from I.hok a _ ha)
  have J : PySem.W.InstAt s.heap a oe D none := by
    obtain ⟨oc, od, oda, osl⟩ := oe
    obtain ⟨z1, z2⟩ := z
    dsimp only at z1 z2 hv
    subst z1 z2 hv
    exact ⟨h1, rfl, rfl, trivial⟩
  exact PySem.W.kia_one (PySem.W.handS_kitx_exc C.hg C.hk C.hs C.hd C.ha C.hn C.ht C.hm) I.kIn J e (fun z => nomatch z) fun tk => ⟨.bl b, H, I.kept (t' := tk) fun _ _ z => z, rfl, q⟩
structure ExF (K : PySem.W.Frag) (mg : Str → Option Value) (n : String) : Prop where
  g : mg (Str.ofString n) = some (.ref (clOf K n))
  x : PySem.W.excIn K (clOf K n) [.type "ValueError", .type "Exception", .type "BaseException", .type "object"] "ValueError.__new__" = true
  kp : PySem.W.keepIn K (.ref (clOf K n)) = true
  b : PySem.W.subIn K (.ref (clOf K n)) (.type "BaseException") = some true
  ty : PySem.W.typeIn K (.ref (clOf K n)) = some (.type "type")
  c : ExcC K (clOf K n)
  v : PySem.W.subIn K (.ref (clOf K n)) (.type "ValueError") = some true
structure ExFs (K : PySem.W.Frag) (mg : Str → Option Value) (ns : List String) : Prop where
  each : ∀ n ∈ ns, ExF K mg n
  top : ∀ n ∈ ns, PySem.W.exmOne K (.ref (clOf K n)) (.ref (clOf K "FolkError")) = some true
  two : ∀ n ∈ ns, ∀ m ∈ ns, PySem.W.kitOne K (.ref (clOf K n)) (.ref (clOf K m)) = some (n == m)
  gF : mg "FolkError" = some (.ref (clOf K "FolkError"))
def fIsX (ns : List String) (m : String) (f : M R) : M R := bnd f fun r s => match r with
  | .ob (.exc ⟨n, none⟩) => if n ∈ ns ∧ m ∈ ns then .ok (.val (.bool (n == m))) s else .stuck
  | _ => .stuck
def fIsV (ns : List String) (f : M R) : M R := bnd f fun r s => match r with
  | .ob (.exc ⟨n, none⟩) => if n ∈ ns then .ok (.val (.bool true)) s else .stuck
  | _ => .stuck
section
variable {X : Cx} {cl : String → Addr} {W : WX} {e : Expr} {f : M R} {pos : Pos}
theorem d_isX {ns : List String} {m : String} {x : Str} {p p2 : Pos} (T : ExFs X.K X.mg ns) (hg : Gl X "isinstance") (hm : X.mg "isinstance" = none) (ha : DE X cl W e f) (hx : PE X (.Name x p2) (tC (.ref (clOf X.K m))))
    (he : starEach (e :: [.Name x p2]) X.env = (false, eval e X.env) :: starEach [.Name x p2] X.env := by rfl) (he2 : starEach [.Name x p2] X.env = (false, eval (.Name x p2) X.env) :: starEach [] X.env := by rfl) (hpl : (backTo pos (starEach [.Name x p2] X.env)).any (·.1) = false := by rfl) :
    DE X cl W (.Call (.Name "isinstance" p) [e, .Name x p2] [] pos) (fIsX ns m f) := by
  refine pe_imp (pe_callB call_isX hg hm (by decide +kernel) (pa_cons ha (pa_cons hx pa_nil he2) he) (by decide) (by decide) he hpl) fun σ H Q ⟨G, s, S, q⟩ => ?_
  refine ⟨G, s, S, out_mono (out_bind q) fun r G1 s1 H1 st1 S1 k v rr => ?_⟩
  split at k
  · rename_i n
    split at k
    · rename_i hh
      obtain ⟨a, d, rfl, hga, hd⟩ := rr
      have hd : d = none := hd
      subst hd
      exact ⟨a, _, _, _, _, rfl, S1.gh _ _ hga, (T.each n hh.1).c, .own _, T.two n hh.1 m hh.2, k G1 H1 Stp.refl S1 _ (.bl _)⟩
    · exact k.elim
  · exact k.elim
theorem kit_V {K : PySem.W.Frag} {D : Addr} (h : PySem.W.subIn K (.ref D) (.type "ValueError") = some true) : PySem.W.kitOne K (.ref D) (.type "ValueError") = some true := by
  unfold PySem.W.kitOne
  rw [if_neg (by intro z; have := beq_iff_eq.mp z; cases this)]
  show (if PySem.W.kitMeta "ValueError" = true then PySem.W.subIn K (.ref D) (.type "ValueError") else none) = _
  rw [if_pos (by decide +kernel)]
  exact h
theorem d_isV {ns : List String} {p p2 : Pos} {mg : Str → Option Value} (T : ExFs X.K mg ns) (hg : Gl X "isinstance") (hm : X.mg "isinstance" = none) (ha : DE X cl W e f) (hx : PE X (.Name "ValueError" p2) (tC (.ty "ValueError")))
    (he : starEach (e :: [.Name "ValueError" p2]) X.env = (false, eval e X.env) :: starEach [.Name "ValueError" p2] X.env := by rfl) (he2 : starEach [.Name "ValueError" p2] X.env = (false, eval (.Name "ValueError" p2) X.env) :: starEach [] X.env := by rfl) (hpl : (backTo pos (starEach [.Name "ValueError" p2] X.env)).any (·.1) = false := by rfl) :
    DE X cl W (.Call (.Name "isinstance" p) [e, .Name "ValueError" p2] [] pos) (fIsV ns f) := by
  refine pe_imp (pe_callB call_isX hg hm (by decide +kernel) (pa_cons ha (pa_cons hx pa_nil he2) he) (by decide) (by decide) he hpl) fun σ H Q ⟨G, s, S, q⟩ => ?_
  refine ⟨G, s, S, out_mono (out_bind q) fun r G1 s1 H1 st1 S1 k v rr => ?_⟩
  split at k
  · rename_i n
    split at k
    · rename_i hh
      obtain ⟨a, d, rfl, hga, hd⟩ := rr
      have hd : d = none := hd
      subst hd
      exact ⟨a, _, _, _, _, rfl, S1.gh _ _ hga, (T.each n hh).c, .ty _, kit_V (T.each n hh).v, k G1 H1 Stp.refl S1 _ (.bl _)⟩
    · exact k.elim
  · exact k.elim
end
section
variable {s : DSt} {f : M R} {p : DSt → Flow}
@[simp] theorem x_raise {n : String} : fRaise n s = .err ⟨n, none⟩ s := Eq.trans rfl rfl
def kTry (ns : List String) (i j : Nat) (fl : Flow) : Flow := match fl with
  | .err x s' => if isCaught ns x = true ∧ i < s'.d.length ∧ j < s'.d.length ∧ i ≠ j then .next (putS i .no (putS j (.ob (.exc x)) s')) else .stuck
  | fl => fl
@[simp] theorem x_try {ns : List String} {i j : Nat} : fTry ns i j p s = kTry ns i j (p s) := by
  unfold fTry kTry
  cases p s <;> rfl
@[simp] theorem y_kTry_next {ns : List String} {i j : Nat} : kTry ns i j (.next s) = .next s := Eq.trans rfl rfl
@[simp] theorem y_kTry_ret {ns : List String} {i j : Nat} {r : R} : kTry ns i j (.ret r s) = .ret r s := Eq.trans rfl rfl
@[simp] theorem y_kTry_err {ns : List String} {i j : Nat} {n : String} : kTry ns i j (.err ⟨n, none⟩ s) = if n ∈ ns ∧ i < s.d.length ∧ j < s.d.length ∧ i ≠ j then .next (putS i .no (putS j (.ob (.exc ⟨n, none⟩)) s)) else .stuck := by
  show (if isCaught ns ⟨n, none⟩ = true ∧ _ then _ else _) = _
  have : isCaught ns ⟨n, none⟩ = true ↔ n ∈ ns := by simp [isCaught]
  simp only [this]
def kIsX (ns : List String) (m : String) (r : R) (s : DSt) : Res R := match r with
  | .ob (.exc ⟨n, none⟩) => if n ∈ ns ∧ m ∈ ns then .ok (.val (.bool (n == m))) s else .stuck
  | _ => .stuck
@[simp] theorem y_kIsX {ns : List String} {n m : String} : kIsX ns m (.ob (.exc ⟨n, none⟩)) s = if n ∈ ns ∧ m ∈ ns then .ok (.val (.bool (n == m))) s else .stuck := Eq.trans rfl rfl
@[simp] theorem x_isX {ns : List String} {m : String} : fIsX ns m f s = (f s).bind (kIsX ns m) := Eq.trans rfl rfl
def kIsV (ns : List String) (r : R) (s : DSt) : Res R := match r with
  | .ob (.exc ⟨n, none⟩) => if n ∈ ns then .ok (.val (.bool true)) s else .stuck
  | _ => .stuck
@[simp] theorem y_kIsV {ns : List String} {n : String} : kIsV ns (.ob (.exc ⟨n, none⟩)) s = if n ∈ ns then .ok (.val (.bool true)) s else .stuck := Eq.trans rfl rfl
@[simp] theorem x_isV {ns : List String} : fIsV ns f s = (f s).bind (kIsV ns) := Eq.trans rfl rfl
end
/-! ### the facts of the classes, from the written part -/
section
variable {K : PySem.W.Frag} {h : Heap} {mg : Str → Option Value} {n m : String} {C D : Addr}
theorem ex_mk (X : PySem.W.Frag.In K h) (G : h.Ns mainGlobals mg) (a : PySem.W.nsIn K mainGlobals (Str.ofString n) = some (some (.ref C))) (x : PySem.W.excIn K C [.type "ValueError", .type "Exception", .type "BaseException", .type "object"] "ValueError.__new__" = true) (kp : PySem.W.keepIn K (.ref C) = true)
    (b : PySem.W.subIn K (.ref C) (.type "BaseException") = some true) (ty : PySem.W.typeIn K (.ref C) = some (.type "type")) (v : PySem.W.subIn K (.ref C) (.type "ValueError") = some true) (hd : PySem.W.hasDictIn K C = true)
    (hg : PySem.W.findIn K (.ref C) "__getattribute__" = some (some (.builtin "BaseException.__getattribute__"))) (hk : PySem.W.findIn K (.ref C) "__getattr__" = some none) (hc : PySem.W.findIn K (.ref C) "__class__" = some (some (.builtin "object.__class__")))
    (hm : PySem.W.mroIn K C (.type "object") = some true) (s0 : PySem.W.specialIn K (.builtin "object.__class__") "__get__" = some (some (.builtin "getset_descriptor.__get__"))) (t0 : PySem.W.takesIn K (.builtin "object.__class__") = some true) : ExF K mg n := by
  have g := PySem.W.mg_of X G a
  have e := clOf_of a
  subst e
  exact ⟨g, x, kp, b, ty, ⟨hg, hk, b, hd, hc, s0, t0, hm⟩, v⟩
theorem top_mk (a : PySem.W.nsIn K mainGlobals (Str.ofString n) = some (some (.ref C))) (aF : PySem.W.nsIn K mainGlobals "FolkError" = some (some (.ref D))) (b : PySem.W.subIn K (.ref D) (.type "BaseException") = some true) (hd : PySem.W.hasDictIn K D = true)
    (ty : PySem.W.typeIn K (.ref D) = some (.type "type")) (s : PySem.W.subIn K (.ref C) (.ref D) = some true) : PySem.W.exmOne K (.ref (clOf K n)) (.ref (clOf K "FolkError")) = some true := by
  have eF : clOf K "FolkError" = D := clOf_of aF
  rw [clOf_of a, eF]
  exact PySem.W.exm_ref b hd ty s
theorem two_eq : PySem.W.kitOne K (.ref (clOf K n)) (.ref (clOf K n)) = some (n == n) := by
  unfold PySem.W.kitOne
  rw [if_pos (by simp)]
  simp
theorem two_mk (a : PySem.W.nsIn K mainGlobals (Str.ofString n) = some (some (.ref C))) (a2 : PySem.W.nsIn K mainGlobals (Str.ofString m) = some (some (.ref D))) (s : PySem.W.subIn K (.ref C) (.ref D) = some false) (s2 : PySem.W.subIn K (.ref C) (.ref C) = some true)
    (hd : PySem.W.hasDictIn K D = true) (ty : PySem.W.typeIn K (.ref D) = some (.type "type")) (hne : n ≠ m) : PySem.W.kitOne K (.ref (clOf K n)) (.ref (clOf K m)) = some (n == m) := by
  rw [clOf_of a, clOf_of a2]
  have ne : C ≠ D := fun z => by subst z; rw [s] at s2; cases s2
  unfold PySem.W.kitOne
  rw [if_neg (by intro z; exact ne (Value.ref.inj (beq_iff_eq.mp z)))]
  obtain ⟨cd, hc, _⟩ := PySem.W.any_some hd
  show (if ((PySem.W.clsIn K D).isSome && PySem.W.typeIn K (.ref D) == some (.type "type")) = true then PySem.W.subIn K (.ref C) (.ref D) else none) = _
  rw [if_pos (by rw [hc, ty] <;> rfl), s, beq_eq_false_iff_ne.mpr hne]
theorem mgF_mk (X : PySem.W.Frag.In K h) (G : h.Ns mainGlobals mg) (a : PySem.W.nsIn K mainGlobals "FolkError" = some (some (.ref C))) : mg "FolkError" = some (.ref (clOf K "FolkError")) := by
  have g := PySem.W.mg_of X G a
  have e : clOf K "FolkError" = C := clOf_of a
  subst e
  exact g
end
end DL

/-! DL25: the script, bits, a law without a purse -/
noncomputable section
namespace DL
open PySem L2 PyProof.Rows
open Evl (Ex)
def kScLen (x : R) (s : DSt) : Res R := match x with
  | .ob (.scr ns) => .ok (.val (.int ns.length)) s
  | _ => .stuck
def fScLen (f : M R) : M R := bnd f kScLen
def kScIx (g : M R) (x : R) (s : DSt) : Res R := match x with
  | .ob (.scr ns) => (g s).bind fun y s2 => match look y s2 with
    | some (.int n) => match atI ns n with
      | some z => .ok (.val (.int z)) s2
      | none => .stuck
    | _ => .stuck
  | _ => .stuck
def fScIx (f g : M R) : M R := bnd f (kScIx g)
def andO : PyData → PyData → Option R
  | .int i, .int j => some (.val (.int (Builtin.bitAnd i j)))
  | _, _ => none
section
variable {X : Cx} {cl : String → Addr} {W : WX} {a b x e : Expr} {f g : M R} {pos : Pos}
@[simp] theorem x_scLen {s : DSt} : fScLen f s = (f s).bind kScLen := Eq.trans rfl rfl
@[simp] theorem x_kScLen {ns : List Int} {s : DSt} : kScLen (.ob (.scr ns)) s = .ok (.val (.int ns.length)) s := Eq.trans rfl rfl
@[simp] theorem x_scIx {s : DSt} : fScIx f g s = (f s).bind (kScIx g) := Eq.trans rfl rfl
def kScIx2 (ns : List Int) (y : R) (s2 : DSt) : Res R := match look y s2 with
    | some (.int n) => match atI ns n with
      | some z => .ok (.val (.int z)) s2
      | none => .stuck
    | _ => .stuck
@[simp] theorem x_kScIx {ns : List Int} {s : DSt} : kScIx g (.ob (.scr ns)) s = (g s).bind (kScIx2 ns) := Eq.trans rfl rfl
@[simp] theorem x_kScIx2 {ns : List Int} {i : Int} {s : DSt} : kScIx2 ns (.val (.int i)) s = (match atI ns i with | some z => .ok (.val (.int z)) s | none => .stuck) := Eq.trans rfl rfl
@[simp] theorem x_bitAnd {i j : Int} : andO (.int i) (.int j) = some (.val (.int (Builtin.bitAnd i j))) := Eq.trans rfl rfl
end
/-! ### classes that nothing of the law raises -/
structure ExY (K : PySem.W.Frag) (mg : Str → Option Value) (ns : List String) (m : String) : Prop where
  g : mg (Str.ofString m) = some (.ref (clOf K m))
  two : ∀ n ∈ ns, PySem.W.kitOne K (.ref (clOf K n)) (.ref (clOf K m)) = some false
def kIsY (ns : List String) (m : String) (r : R) (s : DSt) : Res R := match r with
  | .ob (.exc ⟨n, none⟩) => if n ∈ ns then .ok (.val (.bool false)) s else .stuck
  | _ => .stuck
def fIsY (ns : List String) (m : String) (f : M R) : M R := bnd f (kIsY ns m)
@[simp] theorem x_isY {ns : List String} {m : String} {f : M R} {s : DSt} : fIsY ns m f s = (f s).bind (kIsY ns m) := Eq.trans rfl rfl
@[simp] theorem y_kIsY {ns : List String} {n m : String} {s : DSt} : kIsY ns m (.ob (.exc ⟨n, none⟩)) s = if n ∈ ns then .ok (.val (.bool false)) s else .stuck := Eq.trans rfl rfl
theorem d_isY {X : Cx} {cl : String → Addr} {W : WX} {e : Expr} {f : M R} {pos : Pos} {ns : List String} {m : String} {x : Str} {p p2 : Pos} (T : ExFs X.K X.mg ns) (Y : ExY X.K X.mg ns m) (hg : Gl X "isinstance") (hm : X.mg "isinstance" = none) (ha : DE X cl W e f) (hx : PE X (.Name x p2) (tC (.ref (clOf X.K m))))
    (he : starEach (e :: [.Name x p2]) X.env = (false, eval e X.env) :: starEach [.Name x p2] X.env := by rfl) (he2 : starEach [.Name x p2] X.env = (false, eval (.Name x p2) X.env) :: starEach [] X.env := by rfl) (hpl : (backTo pos (starEach [.Name x p2] X.env)).any (·.1) = false := by rfl) :
    DE X cl W (.Call (.Name "isinstance" p) [e, .Name x p2] [] pos) (fIsY ns m f) := by
  refine pe_imp (pe_callB call_isX hg hm (by decide +kernel) (pa_cons ha (pa_cons hx pa_nil he2) he) (by decide) (by decide) he hpl) fun σ H Q ⟨G, s, S, q⟩ => ?_
  refine ⟨G, s, S, out_mono (out_bind q) fun r G1 s1 H1 st1 S1 k v rr => ?_⟩
  unfold kIsY at k
  split at k
  · rename_i n
    split at k
    · rename_i hh
      obtain ⟨a, d, rfl, hga, hd⟩ := rr
      have hd : d = none := hd
      subst hd
      exact ⟨a, _, _, _, _, rfl, S1.gh _ _ hga, (T.each n hh).c, .own _, Y.two n hh, k G1 H1 Stp.refl S1 _ (.bl _)⟩
    · exact k.elim
  · exact k.elim
theorem two2_mk {K : PySem.W.Frag} {n m : String} {C D : Addr} (a : PySem.W.nsIn K mainGlobals (Str.ofString n) = some (some (.ref C))) (a2 : PySem.W.nsIn K mainGlobals (Str.ofString m) = some (some (.ref D))) (s : PySem.W.subIn K (.ref C) (.ref D) = some false) (s2 : PySem.W.subIn K (.ref C) (.ref C) = some true)
    (hd : PySem.W.hasDictIn K D = true) (ty : PySem.W.typeIn K (.ref D) = some (.type "type")) : PySem.W.kitOne K (.ref (clOf K n)) (.ref (clOf K m)) = some false := by
  rw [clOf_of a, clOf_of a2]
  have ne : C ≠ D := fun z => by subst z; rw [s] at s2; cases s2
  unfold PySem.W.kitOne
  rw [if_neg (by intro z; exact ne (Value.ref.inj (beq_iff_eq.mp z)))]
  obtain ⟨cd, hc, _⟩ := PySem.W.any_some hd
  show (if ((PySem.W.clsIn K D).isSome && PySem.W.typeIn K (.ref D) == some (.type "type")) = true then PySem.W.subIn K (.ref C) (.ref D) else none) = _
  rw [if_pos (by rw [hc, ty] <;> rfl), s]
theorem gY_mk {K : PySem.W.Frag} {h : Heap} {mg : Str → Option Value} {m : String} {C : Addr} (X : PySem.W.Frag.In K h) (G : h.Ns mainGlobals mg) (a : PySem.W.nsIn K mainGlobals (Str.ofString m) = some (some (.ref C))) : mg (Str.ofString m) = some (.ref (clOf K m)) := by
  have g := PySem.W.mg_of X G a
  rw [clOf_of a]
  exact g
def LawOkS (n : Nat) (p : DSt → Flow) : Prop := ∀ ns : List Int, ns.length ≤ 63 → ∃ s', p ⟨Sl.ob (.scr ns) :: List.replicate (n - 1) Sl.no, none⟩ = .ret (.val (.bool true)) s'
section
variable {P : Program} {w : World} {K : PySem.W.Frag} {mg : Str → Option Value} {base : Heap} {cl : String → Addr}
theorem law_ok2 {st : Stmt} {x : Str} {N : List Str} {k : Nat} {p : DSt → Flow} {arg : Str} {f : Addr} {fd : FuncData} (F : Fun K x x st f fd) (S : FnScope N [arg] (defScope st))
    (hb : ∀ (f : Addr) (cdv : Value) (A : Around) (outer : List Env) (s : Shared) (H : Hp) (E : XK), RoomG k (A.deeper (envOfC x (defScope st) s.heap.objs.size f cdv)) →
      DSs (cxOf (L2.CX P w) P w K mg base N x (defScope st) f cdv A outer s H E) cl (fun cls d _ H => E cls d H) (defBody st) p)
    (hp : LawOkS N.length p) : FnG P w K mg base (L2.CX P w) (k + 1) f fd [arg] (spLaw K) := by
  refine okG F S (fun vs H Q E h => ?_) (fun cdv A outer s H vs Q E hr h => ?_)
  · obtain ⟨a, ns, rfl, _⟩ := h; rfl
  · refine ⟨_, hb f cdv A outer s H E hr, ?_⟩
    obtain ⟨a, ns, rfl, hs, hl, tb, q⟩ := h
    obtain ⟨s', hp1⟩ := hp ns hl
    have hst : L2.start N [V.ref a] = some (.ref a) :: List.replicate (N.length - 1) none := rfl
    have noown : ∀ (σ : L2.St) (j : Nat) (c : Addr), ¬ OwnAt ⟨Sl.ob (.scr ns) :: List.replicate (N.length - 1) Sl.no, none⟩ σ j c := by
      rintro σ j c ⟨⟨ds, e⟩, _⟩
      match j with
      | 0 => cases e
      | j + 1 =>
        simp only [List.getElem?_cons_succ, List.getElem?_replicate] at e
        split at e <;> cases e
    -- the script is known from the start: all of the heap is taken as known
    refine ⟨allG none H, ⟨Sl.ob (.scr ns) :: List.replicate (N.length - 1) Sl.no, none⟩, ⟨?_, allG_ex, fun j sl e => ?_, fun j _ c z => (noown _ j c z).elim, fun j c z => (noown _ j c z).elim, ⟨trivial, tb.to (fun _ _ h _ => h) (fun _ _ h => h) fun c z => allG_in (.inr z)⟩, fun j c z => (noown _ j c z).elim⟩, ?_⟩
    · rw [hst]; simp
    · rw [hst]
      match j with
      | 0 =>
        cases e
        refine ⟨.ref a, rfl, a, rfl, ?_⟩
        have hn : ∀ u, H a = some u → (∀ ps, u ≠ .tbl ps) → allG none H a = some u := fun u hu n => by
          rw [allG_out, hu]
          rintro (z | z)
          · exact z
          · obtain ⟨ps, e⟩ := tb.h z
            rw [hu] at e; cases e; exact n _ rfl
        rcases hs with (e | ⟨o, e⟩) | z
        · exact .inl (.inl (hn _ e fun _ => nofun))
        · exact .inl (.inr ⟨o, hn _ e fun _ => nofun⟩)
        · exact .inr z
      | j + 1 =>
        simp only [List.getElem?_cons_succ, List.getElem?_replicate] at e
        split at e
        · cases e; trivial
        · cases e
    · show FOut K cl _ _ _ _ _ (p _) _
      rw [hp1]
      intro v G' σ' H2 st' S' rr
      cases rr
      exact q H2
end
end DL

/-! DL26: bool(x) -/
noncomputable section
namespace DL
open PySem L2 PyProof.Rows
open Evl (Ex)
def boolO : List PyData → Option R
  | [.int i] => some (.val (.bool (i != 0)))
  | [.bool b] => some (.val (.bool b))
  | _ => none
@[simp] theorem x_boolI {a : Int} : boolO [.int a] = some (.val (.bool (a != 0))) := Eq.trans rfl rfl
@[simp] theorem x_boolB {b : Bool} : boolO [.bool b] = some (.val (.bool b)) := Eq.trans rfl rfl
end DL

/-! DL27: a comprehension over an own list that stays own -/
noncomputable section
namespace DL
open PySem L2 PyProof.Rows
open Evl (Ex)
def isOwnL (j : Nat) (ds : List PyData) (s : DSt) : Prop := s.d[j]? = some (.own ds)
instance (j : Nat) (ds : List PyData) (s : DSt) : Decidable (isOwnL j ds s) := Classical.propDecidable _
def loopCO (j : Nat) (all : List PyData) (b : Bd) (ft : M Bool) (fe : M R) (vs : List Nat) : List PyData → List PyData → M (List PyData)
  | [], acc, s => if isOwnL j all s then .ok acc s else .stuck
  | d :: ds, acc, s => if isOwnL j all s then if noOwn vs s.d then match b d { s with d := blank vs s.d } with
      | none => .stuck
      | some s1 => (nerr (ft s1)).bind fun t s2 => if t then (nerr (bnd fe fEsc s2)).bind fun r s3 => match r with
            | .val x => loopCO j all b ft fe vs ds (acc ++ [x]) { s3 with d := putBack vs s.d s3.d }
            | _ => .stuck
          else loopCO j all b ft fe vs ds acc { s2 with d := putBack vs s.d s2.d }
    else .stuck else .stuck
def kNewL : List PyData → M R := fun acc s => .ok (.new acc) s
def kLcO (s : DSt) (j : Nat) (b : Bd) (ft : M Bool) (fe : M R) (vs : List Nat) (ds : List PyData) : Res R := (if leS ds.length then loopCO j ds b ft fe vs ds [] s else .stuck).bind kNewL
def fLcO (j : Nat) (b : Bd) (ft : M Bool) (fe : M R) (vs : List Nat) : M R := fun s => if j ∈ vs then .stuck else match s.d[j]? with
  | some (.own ds) => kLcO s j b ft fe vs ds
  | _ => .stuck
section
variable {X : Cx} {cl : String → Addr} {W : WX} {tg iter : Expr} {pos : Pos}
end
end DL

/-! DL21: sets of ints made of lists: sorted(set(e)) -/
noncomputable section
namespace DL
open PySem L2 PyProof.Rows
open Evl (Ex)
section
variable {P : Program} {w : World} {A : Around} {E : Value → Shared → Prop} {s : Shared}
def emptySet (w : World) : Obj := { cls := .type "set", dict := none, data := .set #[] 0 (.fresh 0 0 (!w.params.followText "set-order")) }
def SetDone (w : World) (h : Heap) (a : Addr) (ns : List Int) (h' : Heap) : Prop := ∃ c, SetR w h' a (fun j => decide (j ∈ ns)) c ∧ c ≤ ns.length ∧ ∀ b o, h.get? b = some o → h'.get? b = some o
def Filled (s : Shared) (w : World) (ns : List Int) (r : Value) (s2 : Shared) : Prop := r = .none ∧ ∃ h' tk, s2 = { s with heap := h', toks := tk } ∧ SetDone w s.heap s.heap.objs.size ns h'
end
/-! ### the rising list of what is in it -/
def ddI : List Int → List Int
  | [] => []
  | a :: l => if a ∈ l then ddI l else a :: ddI l
def setS (ns : List Int) : List Int := sortI (ddI ns)
def kSortSet (r : R) (s : DSt) : Res R := match look r s with
  | some (.list ds) => (match intsD ds with
    | some ns => if ns.length ≤ 60 then .ok (.new ((setS ns).map .int)) s else .stuck
    | none => .stuck)
  | _ => .stuck
@[simp] theorem y_kSortSet (r : R) (s : DSt) : kSortSet r s = (match look r s with | some (.list ds) => (match intsD ds with | some ns => if ns.length ≤ 60 then .ok (.new ((setS ns).map .int)) s else .stuck | none => .stuck) | _ => .stuck) := Eq.trans rfl rfl
def fSortSet (f : M R) : M R := bnd f kSortSet
@[simp] theorem x_sortSet {f : M R} {s : DSt} : fSortSet f s = (f s).bind kSortSet := Eq.trans rfl rfl
section
variable {X : Cx} {cl : String → Addr} {W : WX} {e a b c : Expr} {f g : M R} {pos : Pos}
def tSetL (X : Cx) (te : TE) : TE := fun σ H Q => te σ H fun v H1 => ∃ (l : Addr) (ns : List Int), v = .ref l ∧ SqL X.K H1 l (ns.map V.int) ∧ ns.length ≤ 60 ∧ ∀ p n, H1 p = none → n ≤ ns.length → Q (.ref p) (upd H1 p (SetO X.w p (fun j => decide (j ∈ ns)) n))
end
end DL

/-! DL28: results that are new all through -/
noncomputable section
namespace DL
open PySem L2 PyProof.Rows
open Evl (Ex)
def Dom (H0 H : Hp) : Prop := ∀ a, H0 a ≠ none → H a ≠ none
theorem Dom.none {H0 H : Hp} (d : Dom H0 H) {a : Addr} (h : H a = none) : H0 a = none := Classical.byContradiction fun z => d a z h
def NewIn (H0 : Hp) (ds : List PyData) (xs : List V) : Prop := ∀ (i : Nat) b es, ds[i]? = some (.list es) → xs[i]? = some (.ref b) → H0 b = none
def OneIn (ds : List PyData) (xs : List V) : Prop := ∀ (i j : Nat) b es fs, ds[i]? = some (.list es) → ds[j]? = some (.list fs) → xs[i]? = some (.ref b) → xs[j]? = some (.ref b) → i = j
def DeepL (ds : List PyData) (H0 H : Hp) (v : V) : Prop := ∀ a xs, v = .ref a → H a = some (.lst xs) → H0 a = none ∧ NewIn H0 ds xs
def DeepT (K : PySem.W.Frag) (ds : List PyData) (H0 H : Hp) (v : V) : Prop := ∃ a xs, v = .ref a ∧ H a = some (.tup xs) ∧ H0 a = none ∧ RpAll K H xs ds ∧ NewIn H0 ds xs ∧ OneIn ds xs
def DeepV (K : PySem.W.Frag) (H0 H : Hp) (v : V) : PyData → Prop
  | .list ds => DeepL ds H0 H v
  | .tuple ds => DeepT K ds H0 H v
  | _ => True
def DeepR (K : PySem.W.Frag) (H0 H : Hp) (s : DSt) (v : V) : R → Prop
  | .new ds => DeepL ds H0 H v
  | .slot i => (∀ ds, s.d[i]? = some (.own ds) → DeepL ds H0 H v) ∧ ∀ d, s.d[i]? = some (.val d) → DeepV K H0 H v d
  | .val d => DeepV K H0 H v d
  | _ => True
theorem NewIn.less {H0 H1 : Hp} {ds : List PyData} {xs : List V} (d : Dom H0 H1) (h : NewIn H1 ds xs) : NewIn H0 ds xs := fun i b es e1 e2 => d.none (h i b es e1 e2)
theorem DeepL.less {H0 H1 H : Hp} {ds : List PyData} {v : V} (d : Dom H0 H1) (h : DeepL ds H1 H v) : DeepL ds H0 H v := fun a xs e e2 => ⟨d.none (h a xs e e2).1, (h a xs e e2).2.less d⟩
theorem DeepT.less {K : PySem.W.Frag} {H0 H1 H : Hp} {ds : List PyData} {v : V} (d : Dom H0 H1) (h : DeepT K ds H1 H v) : DeepT K ds H0 H v := by
  obtain ⟨a, xs, e, e2, h0, hr, h1, h2⟩ := h
  exact ⟨a, xs, e, e2, d.none h0, hr, h1.less d, h2⟩
theorem DeepV.less {K : PySem.W.Frag} {H0 H1 H : Hp} {v : V} {x : PyData} (d : Dom H0 H1) (h : DeepV K H1 H v x) : DeepV K H0 H v x := by
  cases x <;> first | trivial | exact DeepL.less d h | exact DeepT.less d h
theorem DeepR.less {K : PySem.W.Frag} {H0 H1 H : Hp} {s : DSt} {v : V} {r : R} (d : Dom H0 H1) (h : DeepR K H1 H s v r) : DeepR K H0 H s v r := by
  cases r with
  | new ds => exact DeepL.less d h
  | slot i => exact ⟨fun ds e => (h.1 ds e).less d, fun x e => (h.2 x e).less d⟩
  | raw v => trivial
  | ob o => trivial
  | val x => exact DeepV.less d h
structure Of (H0 : Hp) (s : DSt) (σ : L2.St) (H : Hp) : Prop where
  dom : Dom H0 H
  own : ∀ i a, OwnAt s σ i a → H0 a = none
def Gf (H0 G : Hp) : Prop := ∀ a, H0 a ≠ none → G a = none
section
variable {K : PySem.W.Frag} {H0 G H G' H' G4 H4 Gm : Hp} {s s' s4 : DSt} {σ σ' σ4 : L2.St} {v : V} {r : R}
theorem Of.step (j : Of H0 s σ H) (st : Stp G s σ H G' s' σ' H') (S' : SA K G' s' σ' H') : Of H0 s' σ' H' := by
  refine ⟨fun a h => st.dom a (j.dom a h), fun i a z => ?_⟩
  rcases st.own a (.inl ⟨i, z⟩) with q | q
  · rcases q with ⟨k, q⟩ | q
    · exact j.own k a q
    · exact absurd (st.pw a q) (S'.pne i a z)
  · exact j.dom.none q
theorem Gf.step (g : Gf H0 G) (j : Of H0 s σ H) (st : Stp G s σ H G' s' σ' H') (S' : SA K G' s' σ' H') : Gf H0 G' := by
  intro a ha
  obtain ⟨o, e⟩ := Option.ne_none_iff_exists'.mp (j.dom a ha)
  by_cases z : Own s σ a
  · rcases z with ⟨i, z⟩ | z
    · exact absurd (j.own i a z) ha
    · exact G_pown S'.pw (st.pw a z)
  · rw [(st.keep a o e z).2]; exact g a ha
theorem Gf.none (g : Gf H0 G) {a : Addr} {o : HO} (h : G a = some o) : H0 a = none := Classical.byContradiction fun z => by rw [g a z] at h; cases h
def mergeG (G4 G : Hp) : Hp := fun x => match G4 x with
  | some o => some o
  | none => G x
theorem merge_none {x : Addr} (h : G4 x = none) : mergeG G4 G x = G x := by unfold mergeG; rw [h]
theorem merge_ex : Ex G4 (mergeG G4 G) := fun a o e => by unfold mergeG; rw [e]
end
/-! ### judgements -/
section
variable (K : PySem.W.Frag) (cl : String → Addr) (W : WX)
def spFd (F : List R → Pw → FRes) : Sp := fun vs H Q E => ∃ (G : Hp) (rs : List R) (w : Pw), Ex G H ∧ Paired (AR K G) vs rs ∧ PwOk G w H ∧ match F rs w with
  | .ok r w' => ∀ v G' H', FStp G w H G' w' H' → PwOk G' w' H' → FRel K H G' w' H' v r → DeepR K H H' ⟨[], none⟩ v r → Q v H'
  | .err x w' => ∀ cls d G' H', FStp G w H G' w' H' → PwOk G' w' H' → XRel K cl x cls d G' → E cls d H'
  | .stuck => False
def FOutd (H0 G : Hp) (s : DSt) (σ : L2.St) (H : Hp) (fl : Flow) (D : Ends) : Prop := match fl with
  | .next s' => ∀ G' σ' H', Stp G s σ H G' s' σ' H' → SA K G' s' σ' H' → D.nx σ' H'
  | .brk s' => ∀ G' σ' H', Stp G s σ H G' s' σ' H' → SA K G' s' σ' H' → D.bk σ' H'
  | .cnt s' => ∀ G' σ' H', Stp G s σ H G' s' σ' H' → SA K G' s' σ' H' → D.ct σ' H'
  | .ret r s' => ∀ v G' σ' H', Stp G s σ H G' s' σ' H' → SA K G' s' σ' H' → RRel K H G' s' σ' H' v r → DeepR K H0 H' s' v r → D.rt v H'
  | .err x s' => ∀ cls d G' σ' H', Stp G s σ H G' s' σ' H' → SA K G' s' σ' H' → XRel K cl x cls d G' → W cls d σ' H'
  | .stuck => False
def tSd (H0 : Hp) (f : DSt → Flow) : TS := fun D σ H => ∃ G s, SA K G s σ H ∧ Of H0 s σ H ∧ FOutd K cl W H0 G s σ H (f s) D
def tDd (H0 : Hp) (f : M R) : TE := fun σ H Q => ∃ G s, SA K G s σ H ∧ Dom H0 H ∧ Out K cl W G s σ H (f s) fun r G' s' H' => ∀ v, RRel K H G' s' σ H' v r → DeepR K H0 H' s' v r → Q v H'
end
def Cald (P : Program) (w : World) (K : PySem.W.Frag) (mg : Str → Option Value) (base : Heap) (cl : String → Addr) (x : Str) (k : Nat) (ps : List Str) (F : List R → Pw → FRes) : Prop :=
  ∃ (f : Addr) (fd : FuncData), FnG P w K mg base (L2.CX P w) k f fd ps (spFd K cl F) ∧ mg x = some (.ref f) ∧ PySem.W.keepIn K (.ref f) = true ∧ Binds K fd ps []
section
variable {K : PySem.W.Frag} {cl : String → Addr} {W : WX} {H0 G H G' H' : Hp} {s s' : DSt} {σ σ' : L2.St}
def fseqn (f g : DSt → Flow) : DSt → Flow := fun s => match f s with
  | .next s' => g s'
  | .err x s' => .err x s'
  | _ => .stuck
end
/-! ### rules -/
section
variable {X : Cx} {cl : String → Addr} {W : WX} {H0 : Hp} {e a b c : Expr} {es : List Expr} {f g : M R} {fs : M (List R)} {pos : Pos} {st : Stmt} {rest : List Stmt} {p q : DSt → Flow}
end
end DL

/-! DL29: a list of lists that grows from nothing old -/
noncomputable section
namespace DL
open PySem L2 PyProof.Rows
open Evl (Ex)
def oneS (n i : Nat) (x : Sl) : List Sl := (List.replicate n Sl.no).set i x
def fGrow (i : Nat) (f1 f2 : M R) (bd : Bd) (p q : DSt → Flow) : DSt → Flow := fun s => match f1 s with
  | .ok (.new d1) s1 => if i < s1.d.length ∧ d1.all atomD = true then (match f2 (putS i .no s1) with
    | .ok (.new d2) s2 => if d2.all atomD = true then (match loopF bd p d2 ⟨oneS s2.d.length i (.own [.list d1]), s2.w⟩ with
      | .next s3 => (match q s3 with
        | .ret (.new ds) s4 => .ret (.new ds) s4
        | _ => .stuck)
      | _ => .stuck) else .stuck
    | _ => .stuck) else .stuck
  | _ => .stuck
section
variable {K : PySem.W.Frag} {G H : Hp} {s : DSt} {σ : L2.St}
end
section
variable {X : Cx} {cl : String → Addr} {W : WX} {H0 : Hp} {e1 e2 tg : Expr} {body rest : List Stmt} {f1 f2 : M R} {pos pos' pl pf : Pos} {p q : DSt → Flow}
end
end DL

/-! DL30: a list of own lists, at a slot -/
noncomputable section
namespace DL
open PySem L2 PyProof.Rows
open Evl (Ex)
def E0 : Hp := fun _ => none
theorem rp0_ref {K : PySem.W.Frag} {b : Addr} {d : PyData} (h : Rp K E0 (.ref b) d) (a : atomD d = true) : False := by
  cases d <;> simp [atomD] at a <;> cases h
theorem rps0_ref {K : PySem.W.Frag} {vs : List V} {es : List PyData} {m : Nat} {b : Addr} (h : RpAll K E0 vs es) (a : es.all atomD = true) (e : vs[m]? = some (.ref b)) : False := by
  obtain ⟨d, e2, rr⟩ := dps_get h e
  exact rp0_ref rr (List.all_eq_true.mp a d (List.mem_of_getElem? e2))
def nestP (a : Addr) (xs : List V) (ds : List PyData) (x : Addr) : Prop := x = a ∨ ∃ (i : Nat) (es : List PyData), ds[i]? = some (.list es) ∧ xs[i]? = some (.ref x)
def nvw (ds : List PyData) (L : Bool) : PyData := if L = true then .list ds else .tuple ds
def nho (xs : List V) (L : Bool) : HO := if L = true then .lst xs else .tup xs
structure NA (K : PySem.W.Frag) (j : Nat) (Gb : Hp) (sb : DSt) (σb : L2.St) (Hb G : Hp) (s : DSt) (σ : L2.St) (H : Hp) (a : Addr) (xs : List V) (ds : List PyData) (L : Bool) : Prop where
  sa : SA K G (putS j .no s) σ H
  stp : Stp Gb sb σb Hb G (putS j .no s) σ H
  jl : j < s.d.length
  ej : σ[j]? = some (some (.ref a))
  one : OneIn ds xs
  len : xs.length = ds.length
  el : ∀ (i : Nat) es, ds[i]? = some (.list es) → es.all atomD = true ∧ ∃ b vs, xs[i]? = some (.ref b) ∧ H b = some (.lst vs) ∧ RpAll K E0 vs es ∧ G b = none ∧ ¬ Own (putS j .no s) σ b ∧ Hb b = none
  at' : ∀ (i : Nat) d, ds[i]? = some d → (∀ es, d ≠ .list es) → atomD d = true ∧ ∃ x, xs[i]? = some x ∧ Rp K E0 x d
  out : s.d[j]? = some (.val (nvw ds L)) ∧ H a = some (nho xs L) ∧ G a = none ∧ ¬ Own (putS j .no s) σ a ∧ Hb a = none
section
variable {K : PySem.W.Frag} {j : Nat} {Gb Hb G H G' H' : Hp} {sb s s' : DSt} {σb σ : L2.St} {a : Addr} {xs : List V} {ds : List PyData} {L : Bool}
theorem own_noj {x : Addr} (h : ∀ ds, s.d[j]? ≠ some (.own ds)) : Own (putS j .no s) σ x ↔ Own s σ x := by
  constructor
  · rintro (⟨i, ⟨es, e⟩, e2⟩ | z)
    · by_cases q : i = j
      · subst q
        simp only [putS, List.getElem?_set] at e
        split at e
        · split at e <;> cases e
        · rename_i z; simp at z
      · simp only [putS, List.getElem?_set_ne (Ne.symm q)] at e
        exact .inl ⟨i, ⟨es, e⟩, e2⟩
    · exact .inr z
  · rintro (⟨i, ⟨es, e⟩, e2⟩ | z)
    · have q : i ≠ j := fun q => by subst q; exact h es e
      exact .inl ⟨i, ⟨es, by simp only [putS, List.getElem?_set_ne (Ne.symm q)]; exact e⟩, e2⟩
    · exact .inr z
theorem ownAt_no {i : Nat} {x : Addr} (h : ∀ ds, s.d[j]? ≠ some (.own ds)) : OwnAt (putS j .no s) σ i x ↔ OwnAt s σ i x := by
  constructor
  · rintro ⟨⟨es, e⟩, e2⟩
    by_cases q : i = j
    · subst q
      simp only [putS, List.getElem?_set] at e
      split at e
      · split at e <;> cases e
      · rename_i z; simp at z
    · simp only [putS, List.getElem?_set_ne (Ne.symm q)] at e
      exact ⟨⟨es, e⟩, e2⟩
  · rintro ⟨⟨es, e⟩, e2⟩
    have q : i ≠ j := fun q => by subst q; exact h es e
    exact ⟨⟨es, by simp only [putS, List.getElem?_set_ne (Ne.symm q)]; exact e⟩, e2⟩
theorem NA.sj (N : NA K j Gb sb σb Hb G s σ H a xs ds L) : s.d[j]? = some (.val (nvw ds L)) := N.out.1
theorem NA.noj (N : NA K j Gb sb σb Hb G s σ H a xs ds L) : ∀ ds, s.d[j]? ≠ some (.own ds) := fun es e => by rw [N.sj] at e; cases e
theorem NA.ne (N : NA K j Gb sb σb Hb G s σ H a xs ds L) {x : Addr} (h : nestP a xs ds x) : G x = none ∧ ¬ Own (putS j .no s) σ x ∧ Hb x = none ∧ ∃ o, H x = some o := by
  rcases h with rfl | ⟨i, es, e1, e2⟩
  · obtain ⟨_, h1, h2, h3, h4⟩ := N.out
    exact ⟨h2, h3, h4, _, h1⟩
  · obtain ⟨_, b, vs, e3, h1, _, h2, h3, h4⟩ := N.el i es e1
    rw [e2] at e3
    cases e3
    exact ⟨h2, h3, h4, _, h1⟩
def viewG (a : Addr) (xs : List V) (ds : List PyData) (G H : Hp) : Hp := fun x => @ite _ (nestP a xs ds x) (Classical.propDecidable _) (H x) (G x)
theorem view_in {x : Addr} (h : nestP a xs ds x) : viewG a xs ds G H x = H x := by unfold viewG; rw [if_pos h]
theorem view_out {x : Addr} (h : ¬ nestP a xs ds x) : viewG a xs ds G H x = G x := by unfold viewG; rw [if_neg h]
theorem NA.exv (N : NA K j Gb sb σb Hb G s σ H a xs ds L) : Ex G (viewG a xs ds G H) := fun x o e => by
  by_cases h : nestP a xs ds x
  · rw [(N.ne h).1] at e; cases e
  · rw [view_out h]; exact e
theorem rps_of_get {G : Hp} : ∀ {xs : List V} {ds : List PyData}, xs.length = ds.length → (∀ (i : Nat) x d, xs[i]? = some x → ds[i]? = some d → Rp K G x d) → RpAll K G xs ds
  | [], [], _, _ => .nil
  | [], _ :: _, h, _ => by simp at h
  | _ :: _, [], h, _ => by simp at h
  | x :: xs, d :: ds, h, f => .cons (f 0 x d rfl rfl) (rps_of_get (by simpa using h) fun i x d e1 e2 => f (i + 1) x d (by simpa using e1) (by simpa using e2))
theorem NA.rpv (N : NA K j Gb sb σb Hb G s σ H a xs ds L) : RpAll K (viewG a xs ds G H) xs ds := by
  refine rps_of_get N.len fun i x d e1 e2 => ?_
  by_cases q : ∃ es, d = .list es
  · obtain ⟨es, rfl⟩ := q
    obtain ⟨at1, b, vs, e3, h1, h2, _⟩ := N.el i es e2
    rw [e1] at e3
    cases e3
    exact .lst (by rw [view_in (.inr ⟨i, es, e2, e1⟩)]; exact h1) (rps_atom h2 at1)
  · obtain ⟨at1, y, e3, rr⟩ := N.at' i d e2 fun es z => q ⟨es, z⟩
    rw [e1] at e3
    cases e3
    exact rp_atom rr at1
theorem NA.view (N : NA K j Gb sb σb Hb G s σ H a xs ds L) : SA K (viewG a xs ds G H) s σ H := by
  have S := N.sa
  have hx := N.exv
  refine ⟨by have := S.len; simpa [putS] using this, fun x o e => ?_, fun i sl h => ?_, fun i k x h1 h2 => S.inj i k x ((ownAt_no N.noj).mpr h1) ((ownAt_no N.noj).mpr h2), fun i x h => ?_, ?_, fun i x h => S.pne i x ((ownAt_no N.noj).mpr h)⟩
  · by_cases h : nestP a xs ds x
    · rw [view_in h] at e; exact e
    · rw [view_out h] at e; exact S.gh x o e
  · by_cases q : i = j
    · subst q
      rw [N.sj] at h
      cases h
      refine ⟨.ref a, by rw [N.ej] <;> rfl, ?_⟩
      obtain ⟨_, h1, _⟩ := N.out
      unfold nvw
      unfold nho at h1
      by_cases q : L = true
      · rw [if_pos q] at h1 ⊢
        exact .lst (by rw [view_in (.inl rfl)]; exact h1) N.rpv
      · rw [if_neg q] at h1 ⊢
        exact .tup (by rw [view_in (.inl rfl)]; exact h1) N.rpv
    · have h' : (putS j .no s).d[i]? = some sl := by simp only [putS, List.getElem?_set_ne (Ne.symm q)]; exact h
      have q := S.slot i sl h'
      cases sl with
      | no => trivial
      | val d => obtain ⟨v, e, hd⟩ := q; exact ⟨v, e, dp_mono hx _ _ hd⟩
      | raw v => exact q
      | ob o => obtain ⟨v, e, hd⟩ := q; exact ⟨v, e, ob_mono hx hd⟩
      | own es => obtain ⟨b, ys, e, hb, hh⟩ := q; exact ⟨b, ys, e, hb, dps_mono hx _ _ hh⟩
  · have h := (ownAt_no N.noj).mpr h
    rw [view_out fun z => (N.ne z).2.1 (.inl ⟨i, h⟩)]
    exact S.ownG i x h
  · have q : PwOk G s.w H := S.pw
    have n : ∀ x, POwn s.w x → ¬ nestP a xs ds x := fun x h z => (N.ne z).2.1 (.inr h)
    exact pwok_to q (fun _ _ h _ => h) (fun _ _ h => h) fun x h => by rw [view_out (n x h)]; exact G_pown q h
def flatS : List Sl → Prop
  | [] => True
  | .own ds :: r => ds.all atomD = true ∧ flatS r
  | _ :: r => flatS r
instance instDecFlat (d : List Sl) : Decidable (flatS d) := Classical.propDecidable _
theorem flatS_get : ∀ {d : List Sl} {i : Nat} {ds : List PyData}, flatS d → d[i]? = some (.own ds) → ds.all atomD = true
  | [], i, ds, _, e => by simp at e
  | x :: r, 0, ds, h, e => by
    simp at e
    subst e
    exact h.1
  | x :: r, i + 1, ds, h, e => by
    have e : r[i]? = some (.own ds) := by simpa using e
    cases x with
    | own es => exact flatS_get h.2 e
    | no => exact flatS_get (d := r) h e
    | val d => exact flatS_get (d := r) h e
    | raw d => exact flatS_get (d := r) h e
    | ob d => exact flatS_get (d := r) h e
def sameV (s s' : DSt) : Prop := s'.d = s.d ∧ flatS s.d
instance (s s' : DSt) : Decidable (sameV s s') := Classical.propDecidable _
def thawG (a : Addr) (xs : List V) (ds : List PyData) (G : Hp) : Hp := fun x => @ite _ (nestP a xs ds x) (Classical.propDecidable _) none (G x)
theorem thaw_in {x : Addr} (h : nestP a xs ds x) : thawG a xs ds G x = none := by unfold thawG; rw [if_pos h]
theorem thaw_out {x : Addr} (h : ¬ nestP a xs ds x) : thawG a xs ds G x = G x := by unfold thawG; rw [if_neg h]
theorem NA.thaw (N : NA K j Gb sb σb Hb G s σ H a xs ds L) (st : Stp (viewG a xs ds G H) s σ H G' s' σ H') (S' : SA K G' s' σ H') (e : sameV s s') : NA K j Gb sb σb Hb (thawG a xs ds G') s' σ H' a xs ds L := by
  obtain ⟨ed, fl⟩ := e
  have exT : Ex G (thawG a xs ds G') := fun x o e => by
    have hn : ¬ nestP a xs ds x := fun z => by rw [(N.ne z).1] at e; cases e
    rw [thaw_out hn]
    exact st.ex x o (N.exv x o e)
  have exT2 : Ex (thawG a xs ds G') G' := fun x o e => by
    by_cases h : nestP a xs ds x
    · rw [thaw_in h] at e; cases e
    · rwa [thaw_out h] at e
  have noj : ∀ ds, s'.d[j]? ≠ some (.own ds) := by rw [ed]; exact N.noj
  have tn : ∀ x, G' x = none → thawG a xs ds G' x = none := fun x h => by
    by_cases q : nestP a xs ds x
    · exact thaw_in q
    · rw [thaw_out q]; exact h
  have nown : ∀ x, nestP a xs ds x → ¬ Own (putS j .no s') σ x := fun x z w => by
    rcases st.own x ((own_noj noj).mp w) with q | q
    · exact (N.ne z).2.1 ((own_noj N.noj).mpr q)
    · obtain ⟨ys, e⟩ := (N.ne z).2.2.2
      rw [q] at e; cases e
  have keepN : ∀ x o, nestP a xs ds x → H x = some o → H' x = some o := fun x o z e => (st.keep x o e fun w => (N.ne z).2.1 ((own_noj N.noj).mpr w)).1
  refine ⟨⟨?_, fun x o e => S'.gh x o (exT2 x o e), fun i sl h => ?_, fun i k x h1 h2 => S'.inj i k x ((ownAt_no noj).mp h1) ((ownAt_no noj).mp h2), fun i x h => tn x (S'.ownG i x ((ownAt_no noj).mp h)), ?_, fun i x h => S'.pne i x ((ownAt_no noj).mp h)⟩, ⟨N.stp.ex.trans exT, fun x o h1 h2 => ?_, fun x z => ?_, fun x h => st.dom x (N.stp.dom x h), fun x h => st.pw x (N.stp.pw x h)⟩, by rw [ed]; exact N.jl, N.ej, N.one, N.len, fun i es h => ?_, N.at', ?_⟩
  · have := S'.len; simpa [putS] using this
  · by_cases q : i = j
    · subst q
      simp only [putS, List.getElem?_set] at h
      split at h
      · split at h
        · cases h; trivial
        · cases h
      · rename_i z; simp at z
    · simp only [putS, List.getElem?_set_ne (Ne.symm q)] at h
      have h0 : s.d[i]? = some sl := by rw [← ed]; exact h
      have z := N.sa.slot i sl (by simp only [putS, List.getElem?_set_ne (Ne.symm q)]; exact h0)
      have z' := S'.slot i sl h
      cases sl with
      | no => trivial
      | val d => obtain ⟨v, e, hd⟩ := z; exact ⟨v, e, dp_mono exT _ _ hd⟩
      | raw v => exact z
      | ob o => obtain ⟨v, e, hd⟩ := z; exact ⟨v, e, ob_mono exT hd⟩
      | own es => obtain ⟨b, ys, e, hb, hh⟩ := z'; exact ⟨b, ys, e, hb, rps_atom hh (flatS_get fl h0)⟩
  · have q : PwOk G' s'.w H' := S'.pw
    show PwOk _ s'.w H'
    exact pwok_to q (fun _ _ h _ => h) (fun _ _ h => h) fun x h => tn x (G_pown q h)
  · obtain ⟨h3, h4⟩ := N.stp.keep x o h1 h2
    have hn : ¬ nestP a xs ds x := fun z => by rw [(N.ne z).2.2.1] at h1; cases h1
    have no : ¬ Own s σ x := fun z => by
      rcases N.stp.own x ((own_noj N.noj).mpr z) with q | q
      · exact h2 q
      · rw [q] at h1; cases h1
    obtain ⟨h5, h6⟩ := st.keep x o h3 no
    exact ⟨h5, by rw [thaw_out hn, h6, view_out hn]; exact h4⟩
  · rcases st.own x ((own_noj noj).mp z) with q | q
    · exact N.stp.own x ((own_noj N.noj).mpr q)
    · exact .inr (Classical.byContradiction fun w => N.stp.dom x w q)
  · obtain ⟨at1, b, vs, e3, h1, h2, _, _, h5⟩ := N.el i es h
    have hP : nestP a xs ds b := .inr ⟨i, es, h, e3⟩
    exact ⟨at1, b, vs, e3, keepN b _ hP h1, h2, thaw_in hP, nown b hP, h5⟩
  · have ho := N.out
    have hP : nestP a xs ds a := .inl rfl
    exact ⟨by rw [ed]; exact ho.1, keepN a _ hP ho.2.1, thaw_in hP, nown a hP, ho.2.2.2.2⟩
theorem NA.app (N : NA K j Gb sb σb Hb G s σ H a xs ds L) {m : Nat} {es : List PyData} {d : PyData} {b : Addr} {vs : List V} {v : V} (e1 : ds[m]? = some (.list es)) (e2 : xs[m]? = some (.ref b)) (hb : H b = some (.lst vs)) (hd : Rp K E0 v d) (ad : atomD d = true) :
    NA K j Gb sb σb Hb G (putS j (.val (nvw (ds.set m (.list (es ++ [d]))) L)) s) σ (upd H b (.lst (vs ++ [v]))) a xs (ds.set m (.list (es ++ [d]))) L := by
  have hP : nestP a xs ds b := .inr ⟨m, es, e1, e2⟩
  obtain ⟨gb, nb, hbb, _⟩ := N.ne hP
  have pp : ∀ x, putS j .no (putS j x s) = putS j .no s := fun x => by simp [putS]
  have ml : m < ds.length := (List.getElem?_eq_some_iff.mp e1).1
  obtain ⟨at0, b0, vs0, e3, hb0, rr0, _⟩ := N.el m es e1
  rw [e2] at e3
  cases e3
  rw [hb] at hb0
  cases hb0
  have hi : ∀ (i : Nat) d', (ds.set m (PyData.list (es ++ [d])))[i]? = some d' → (i = m ∧ d' = PyData.list (es ++ [d])) ∨ (i ≠ m ∧ ds[i]? = some d') := fun i d' h => by
    by_cases q : i = m
    · subst q
      rw [List.getElem?_set_self ml] at h
      cases h; exact .inl ⟨rfl, rfl⟩
    · rw [List.getElem?_set_ne (Ne.symm q)] at h
      exact .inr ⟨q, h⟩
  refine ⟨by rw [pp]; exact sa_write N.sa gb nb (fun φ q => by rw [hb] at q; cases q), ⟨N.stp.ex, fun x o h1 h2 => ?_, by rw [pp]; exact N.stp.own, fun x h => ?_, N.stp.pw⟩, by simpa [putS] using N.jl, N.ej, fun i k c es1 es2 h1 h2 h3 h4 => ?_, by rw [N.len]; simp, fun i es1 h => ?_, fun i d1 h n => ?_, ?_⟩
  · obtain ⟨h3, h4⟩ := N.stp.keep x o h1 h2
    exact ⟨by rw [upd_ne fun z => by subst z; rw [hbb] at h1; cases h1]; exact h3, h4⟩
  · by_cases z : x = b
    · subst z; rw [upd_same]; simp
    · rw [upd_ne z]; exact N.stp.dom x h
  · have g : ∀ i es1, (ds.set m (PyData.list (es ++ [d])))[i]? = some (PyData.list es1) → ∃ es', ds[i]? = some (PyData.list es') := fun i es1 h => by
      rcases hi i _ h with ⟨rfl, _⟩ | ⟨_, h⟩
      · exact ⟨_, e1⟩
      · exact ⟨_, h⟩
    obtain ⟨_, g1⟩ := g i es1 h1
    obtain ⟨_, g2⟩ := g k es2 h2
    exact N.one i k c _ _ g1 g2 h3 h4
  · rcases hi i _ h with ⟨rfl, e⟩ | ⟨q, h⟩
    · cases e
      refine ⟨by simp only [List.all_append, at0, Bool.true_and]; simp [ad], b, vs ++ [v], e2, upd_same, dps_app rr0 (.cons hd .nil), gb, by rw [pp]; exact nb, hbb⟩
    · obtain ⟨at1, c, ws, e4, h1, h2, h3, h4, h5⟩ := N.el i es1 h
      refine ⟨at1, c, ws, e4, ?_, h2, h3, by rw [pp]; exact h4, h5⟩
      rw [upd_ne fun z => q (by subst z; exact N.one i m c _ _ h e1 e4 e2)]
      exact h1
  · rcases hi i _ h with ⟨rfl, e⟩ | ⟨q, h⟩
    · subst e; exact absurd rfl (n _)
    · exact N.at' i d1 h n
  · obtain ⟨_, h1, h2, h3, h4⟩ := N.out
    have hset : ∀ x, (putS j x s).d[j]? = some x := fun x => by simp only [putS]; exact List.getElem?_set_self N.jl
    refine ⟨by rw [hset], ?_, h2, by rw [pp]; exact h3, h4⟩
    rw [upd_ne fun z => by
      subst z
      rw [hb] at h1
      unfold nho at h1
      split at h1
      · cases h1
        exact rps0_ref rr0 at0 e2
      · cases h1]
    exact h1
theorem sa_no {i : Nat} (S : SA K G s σ H) : SA K G (putS i .no s) σ H ∧ ∀ x, Own (putS i .no s) σ x → Own s σ x := by
  have ho : ∀ k x, OwnAt (putS i .no s) σ k x → OwnAt s σ k x := by
    rintro k x ⟨⟨es, e⟩, e2⟩
    by_cases q : k = i
    · subst q
      simp only [putS, List.getElem?_set] at e
      split at e
      · split at e <;> cases e
      · rename_i z; simp at z
    · simp only [putS, List.getElem?_set_ne (Ne.symm q)] at e
      exact ⟨⟨es, e⟩, e2⟩
  refine ⟨⟨by simp [putS, S.len], S.gh, fun k sl h => ?_, fun k l x h1 h2 => S.inj k l x (ho k x h1) (ho l x h2), fun k x h => S.ownG k x (ho k x h), S.pw, fun k x h => S.pne k x (ho k x h)⟩, fun x z => z.imp (fun ⟨k, z⟩ => ⟨k, ho k x z⟩) id⟩
  by_cases q : k = i
  · subst q
    simp only [putS, List.getElem?_set] at h
    split at h
    · split at h
      · cases h; trivial
      · cases h
    · rename_i z; simp at z
  · simp only [putS, List.getElem?_set_ne (Ne.symm q)] at h
    exact S.slot k sl h
theorem NA.blank (N : NA K j Gb sb σb Hb G s σ H a xs ds L) {i : Nat} (ij : i ≠ j) : NA K j Gb sb σb Hb G (putS i .no s) σ H a xs ds L := by
  have pp : putS j .no (putS i .no s) = putS i .no (putS j .no s) := by simp only [putS]; rw [List.set_comm _ _ ij]
  obtain ⟨S, so⟩ := sa_no (i := i) N.sa
  have hj : (putS i .no s).d[j]? = s.d[j]? := by simp only [putS]; exact List.getElem?_set_ne ij
  refine ⟨by rw [pp]; exact S, by rw [pp]; exact ⟨N.stp.ex, N.stp.keep, fun x z => N.stp.own x (so x z), N.stp.dom, N.stp.pw⟩, by simpa [putS] using N.jl, N.ej, N.one, N.len, fun k es h => ?_, N.at', ?_⟩
  · obtain ⟨at1, b, vs, e3, h1, h2, h3, h4, h5⟩ := N.el k es h
    exact ⟨at1, b, vs, e3, h1, h2, h3, fun z => h4 (by rw [pp] at z; exact so b z), h5⟩
  · have ho := N.out
    rw [hj]
    exact ⟨ho.1, ho.2.1, ho.2.2.1, fun z => ho.2.2.2.1 (by rw [pp] at z; exact so a z), ho.2.2.2.2⟩
theorem NA.put (N : NA K j Gb sb σb Hb G s σ H a xs ds L) {i : Nat} {x : Sl} {v : V} (ij : i ≠ j) (hi : i < s.d.length) (hx : SlOk K G H (some v) x) (hx2 : ∀ es, x ≠ .own es) : NA K j Gb sb σb Hb G (putS i x s) (σ.set i (some v)) H a xs ds L := by
  have pp : putS j .no (putS i x s) = putS i x (putS j .no s) := by simp only [putS]; rw [List.set_comm _ _ ij]
  have hi' : i < (putS j .no s).d.length := by simpa [putS] using hi
  have S := put_ok (x := x) (v := v) N.sa hi' hx (fun es _ z => absurd z (hx2 es))
  have T := put_stp (x := x) (v := v) N.sa N.stp hi' (fun es _ z => absurd z (hx2 es))
  have nown : ∀ y, ¬ Own (putS j .no s) σ y → ¬ Own (putS j .no (putS i x s)) (σ.set i (some v)) y := fun y n z => by
    rw [pp] at z
    rcases z with ⟨k, z⟩ | z
    · rcases own_put hi' N.sa.len z with ⟨_, ⟨es, e⟩, _⟩ | ⟨_, z⟩
      · exact hx2 es e
      · exact n (.inl ⟨k, z⟩)
    · exact n (.inr z)
  have hj : (putS i x s).d[j]? = s.d[j]? := by simp only [putS]; exact List.getElem?_set_ne ij
  refine ⟨by rw [pp]; exact S, by rw [pp]; exact T, by simpa [putS] using N.jl, by rw [List.getElem?_set_ne ij]; exact N.ej, N.one, N.len, fun k es h => ?_, N.at', ?_⟩
  · obtain ⟨at1, b, vs, e3, h1, h2, h3, h4, h5⟩ := N.el k es h
    exact ⟨at1, b, vs, e3, h1, h2, h3, nown b h4, h5⟩
  · have ho := N.out
    rw [hj]
    exact ⟨ho.1, ho.2.1, ho.2.2.1, nown a ho.2.2.2.1, ho.2.2.2.2⟩
end
end DL

/-! DL31: statements while a slot holds a list of own lists -/
noncomputable section
namespace DL
open PySem L2 PyProof.Rows
open Evl (Ex)
def NAx (K : PySem.W.Frag) (j : Nat) (Gb : Hp) (sb : DSt) (σb : L2.St) (Hb G : Hp) (s : DSt) (σ : L2.St) (H : Hp) : Prop := ∃ a xs ds L, NA K j Gb sb σb Hb G s σ H a xs ds L
def NOut (K : PySem.W.Frag) (j : Nat) (Gb : Hp) (sb : DSt) (σb : L2.St) (Hb : Hp) (fl : Flow) (D : Ends) : Prop := match fl with
  | .next s' => ∀ G' σ' H', NAx K j Gb sb σb Hb G' s' σ' H' → D.nx σ' H'
  | .brk s' => ∀ G' σ' H', NAx K j Gb sb σb Hb G' s' σ' H' → D.bk σ' H'
  | .cnt s' => ∀ G' σ' H', NAx K j Gb sb σb Hb G' s' σ' H' → D.ct σ' H'
  | .ret (.val d) s' => atomD d = true ∧ ∀ v G' σ' H', Stp Gb sb σb Hb G' s' σ' H' → SA K G' s' σ' H' → Rp K E0 v d → D.rt v H'
  | _ => False
def tN (K : PySem.W.Frag) (j : Nat) (f : DSt → Flow) : TS := fun D σ H => ∃ Gb sb σb Hb G s, NAx K j Gb sb σb Hb G s σ H ∧ NOut K j Gb sb σb Hb (f s) D
section
variable {K : PySem.W.Frag} {j : Nat} {Gb Hb G H G' H' : Hp} {sb s s' : DSt} {σb σ : L2.St} {a : Addr} {xs : List V} {ds : List PyData} {L : Bool}
theorem NA.stpv (N : NA K j Gb sb σb Hb G s σ H a xs ds L) : Stp Gb sb σb Hb (viewG a xs ds G H) s σ H := by
  refine ⟨N.stp.ex.trans N.exv, fun x o h1 h2 => ?_, fun x z => N.stp.own x ((own_noj N.noj).mpr z), N.stp.dom, N.stp.pw⟩
  obtain ⟨h3, h4⟩ := N.stp.keep x o h1 h2
  exact ⟨h3, by rw [view_out fun z => by rw [(N.ne z).2.2.1] at h1; cases h1]; exact h4⟩
end
section
variable {X : Cx} {cl : String → Addr} {W : WX} {e a b c x y : Expr} {es : List Expr} {f g : M R} {fs : M (List R)} {pos : Pos} {st : Stmt} {rest body : List Stmt} {p q : DSt → Flow} {j : Nat}
def vwIf (t : M Bool) (p : DSt → Flow) : DSt → Flow := fun s => match t s with
  | .ok b s1 => if b then (match p s1 with
    | .ret (.val d) s2 => if atomD d = true then .ret (.val d) s2 else .stuck
    | _ => .stuck) else if sameV s s1 then .next s1 else .stuck
  | _ => .stuck
def nForR (i : Nat) (fs : M (List R)) (p : DSt → Flow) : DSt → Flow := fun s => match fs s with
  | .ok [r] s1 => (match look r s1 with
    | some (.int m) => if inB m ∧ sameV s s1 then loopF (bName i) p (rangeD 0 m.toNat) s1 else .stuck
    | _ => .stuck)
  | _ => .stuck
def nApp (j k : Nat) (d : PyData) : DSt → Flow := fun s => match s.d[j]?, s.d[k]? with
  | some (.val (.list ds)), some (.val (.int n)) => (match ixN ds.length n with
    | some m => (match ds[m]? with
      | some (.list es) => if ltS es.length ∧ flatS s.d then .next (putS j (.val (.list (ds.set m (.list (es ++ [d]))))) s) else .stuck
      | _ => .stuck)
    | none => .stuck)
  | _, _ => .stuck
def appAll (d : PyData) : List PyData → Option (List PyData)
  | [] => some []
  | .list es :: r => if ltS es.length then (appAll d r).map (PyData.list (es ++ [d]) :: ·) else none
  | _ :: _ => none
def nForA (j i : Nat) (d : PyData) : DSt → Flow := fun s => match s.d[j]? with
  | some (.val (.list ds)) => if i < s.d.length ∧ flatS (putS i .no s).d then (match appAll d ds with
    | some ds' => .next (putS j (.val (.list ds')) (putS i .no s))
    | none => .stuck) else .stuck
  | _ => .stuck
end
end DL

/-! DL32: the block that begins with x = a call that tells new lists -/
noncomputable section
namespace DL
open PySem L2 PyProof.Rows
open Evl (Ex)
def frz1 (i : Nat) (s : DSt) : DSt := match s.d[i]? with
  | some (.own ds) => { s with d := s.d.set i (.val (.list ds)) }
  | _ => s
def frzS : List Nat → DSt → DSt
  | [], s => s
  | i :: r, s => frzS r (frz1 i s)
def flatE : PyData → Prop
  | .list es => es.all atomD = true
  | d => atomD d = true
def nestOk (ds : List PyData) : Prop := ∀ d ∈ ds, flatE d
def nestOk1 (ds : List PyData) : Prop := nestOk ds ∧ ds.Nodup
def okP : Sl → Sl → Prop
  | _, .no => True
  | .own es, y => es.all atomD = true ∧ (y = .own es ∨ y = .val (.list es))
  | x, y => y = x
def okL : List Sl → List Sl → Prop
  | [], [] => True
  | x :: r, y :: q => okP x y ∧ okL r q
  | _, _ => False
instance (ds : List PyData) : Decidable (nestOk ds) := Classical.propDecidable _
instance (ds : List PyData) : Decidable (nestOk1 ds) := Classical.propDecidable _
instance (x y : List Sl) : Decidable (okL x y) := Classical.propDecidable _
def nEnd (j : Nat) (fl : Flow) : Flow := match fl with
  | .next s => .next (putS j .no s)
  | .ret (.val d) s => if atomD d = true then .ret (.val d) s else .stuck
  | _ => .stuck
def sameW (s0 s1 : DSt) : Prop := s1.w = s0.w
instance (s0 s1 : DSt) : Decidable (sameW s0 s1) := Classical.propDecidable _
def kNB (j : Nat) (g : DSt → Flow) (s0 : DSt) : Res R → Flow
  | .ok (.new ds) s1 => if nestOk1 ds ∧ okL (putS j .no s0).d (putS j .no s1).d ∧ j < s1.d.length then nEnd j (g (putS j (.val (.list ds)) s1)) else .stuck
  | .ok (.val (.tuple ds)) s1 => if nestOk ds ∧ sameW s0 s1 ∧ okL (putS j .no s0).d (putS j .no s1).d ∧ j < s1.d.length then nEnd j (g (putS j (.val (.tuple ds)) s1)) else .stuck
  | _ => .stuck
def fNB (j : Nat) (js : List Nat) (f : M R) (g : DSt → Flow) : DSt → Flow := fun s => kNB j g (frzS js s) (f (frzS js s))
section
variable {K : PySem.W.Frag} {G H : Hp} {s : DSt} {σ : L2.St}
theorem frz_ok : ∀ (js : List Nat) {G : Hp} {s : DSt}, SA K G s σ H → ∃ G', Stp G s σ H G' (frzS js s) σ H ∧ SA K G' (frzS js s) σ H
  | [], G, s, S => ⟨G, Stp.refl, S⟩
  | i :: r, G, s, S => by
    have h : ∃ G', Stp G s σ H G' (frz1 i s) σ H ∧ SA K G' (frz1 i s) σ H := by
      unfold frz1
      split
      · rename_i ds e
        obtain ⟨a, xs, _, _, st, S', _⟩ := slot_known S e
        exact ⟨_, st, S'⟩
      · exact ⟨G, Stp.refl, S⟩
    obtain ⟨G1, st1, S1⟩ := h
    obtain ⟨G2, st2, S2⟩ := frz_ok r S1
    exact ⟨G2, st1.trans st2, S2⟩
end
section
variable {X : Cx} {cl : String → Addr} {W : WX} {e : Expr} {f : M R} {pos pos' : Pos} {rest : List Stmt} {g : DSt → Flow} {j : Nat} {x : Str}
end
end DL

/-! DL33: rows for simp -/
noncomputable section
namespace DL
open PySem L2
section
variable {α : Type} {s s1 : DSt} {d d' : List Sl} {w w' : Pw} {x : PyData} {ds es : List PyData} {j i k : Nat} {p q : DSt → Flow} {f : M R} {fs : M (List R)}
def andN (x : Flow) (q : DSt → Flow) : Flow := match x with
  | .next s => q s
  | .err y s => .err y s
  | _ => .stuck
@[simp] theorem an_next : andN (.next s) q = q s := Eq.trans rfl rfl
@[simp] theorem an_err {y : Exn} : andN (.err y s) q = .err y s := Eq.trans rfl rfl
@[simp] theorem x_seqn : fseqn p q s = andN (p s) q := by unfold fseqn andN; cases p s <;> rfl
def onResN (r : Res α) (g : α → DSt → Flow) : Flow := match r with
  | .ok a s => g a s
  | _ => .stuck
@[simp] theorem rn_ok {a : α} {g : α → DSt → Flow} : onResN (.ok a s) g = g a s := Eq.trans rfl rfl
def retV (x : Flow) : Flow := match x with
  | .ret (.val d) s => if atomD d = true then .ret (.val d) s else .stuck
  | _ => .stuck
@[simp] theorem x_retV : retV (.ret (.val x) s) = if atomD x = true then .ret (.val x) s else .stuck := Eq.trans rfl rfl
def kVw (p : DSt → Flow) (s0 : DSt) (b : Bool) (s1 : DSt) : Flow := if b = true then retV (p s1) else if sameV s0 s1 then .next s1 else .stuck
@[simp] theorem y_kVw {b : Bool} : kVw p s b s1 = if b = true then retV (p s1) else if sameV s s1 then .next s1 else .stuck := Eq.trans rfl rfl
@[simp] theorem x_vwIf {t : M Bool} : vwIf t p s = onResN (t s) (kVw p s) := by
  unfold vwIf onResN kVw retV
  cases t s with
  | ok b s1 => cases b <;> rfl
  | _ => rfl
@[simp] theorem x_sameV : sameV ⟨d, w⟩ ⟨d', w'⟩ ↔ d' = d ∧ flatS d := Iff.rfl
@[simp] theorem x_flat0 : flatS [] ↔ True := Iff.rfl
@[simp] theorem x_flat_own {r : List Sl} : flatS (.own ds :: r) ↔ ds.all atomD = true ∧ flatS r := Iff.rfl
@[simp] theorem x_flat_val {r : List Sl} : flatS (.val x :: r) ↔ flatS r := Iff.rfl
@[simp] theorem x_flat_raw {v : V} {r : List Sl} : flatS (.raw v :: r) ↔ flatS r := Iff.rfl
@[simp] theorem x_flat_ob {o : OD} {r : List Sl} : flatS (.ob o :: r) ↔ flatS r := Iff.rfl
@[simp] theorem x_flat_no {r : List Sl} : flatS (.no :: r) ↔ flatS r := Iff.rfl
def kForR (i : Nat) (p : DSt → Flow) (s0 : DSt) (rs : List R) (s1 : DSt) : Flow := match rs with
  | [r] => (match look r s1 with
    | some (.int m) => if inB m ∧ sameV s0 s1 then loopF (bName i) p (rangeD 0 m.toNat) s1 else .stuck
    | _ => .stuck)
  | _ => .stuck
@[simp] theorem y_kForR {r : R} : kForR i p s [r] s1 = (match look r s1 with | some (.int m) => if inB m ∧ sameV s s1 then loopF (bName i) p (rangeD 0 m.toNat) s1 else .stuck | _ => .stuck) := Eq.trans rfl rfl
@[simp] theorem x_nForR : nForR i fs p s = onResN (fs s) (kForR i p s) := by
  unfold nForR onResN kForR
  cases fs s with
  | ok rs s1 => rcases rs with _ | ⟨r, _ | ⟨r2, rs⟩⟩ <;> rfl
  | _ => rfl
@[simp] theorem x_nApp : nApp j k x s = (match s.d[j]?, s.d[k]? with
  | some (.val (.list ds)), some (.val (.int n)) => (match ixN ds.length n with
    | some m => (match ds[m]? with
      | some (.list es) => if ltS es.length ∧ flatS s.d then .next (putS j (.val (.list (ds.set m (.list (es ++ [x]))))) s) else .stuck
      | _ => .stuck)
    | none => .stuck)
  | _, _ => .stuck) := Eq.trans rfl rfl
@[simp] theorem x_nForA : nForA j i x s = (match s.d[j]? with
  | some (.val (.list ds)) => if i < s.d.length ∧ flatS (putS i .no s).d then (match appAll x ds with
    | some ds' => .next (putS j (.val (.list ds')) (putS i .no s))
    | none => .stuck) else .stuck
  | _ => .stuck) := Eq.trans rfl rfl
@[simp] theorem x_okP_no {x : Sl} : okP x .no ↔ True := by cases x <;> exact Iff.rfl
@[simp] theorem x_okP_val {d e : PyData} : okP (.val d) (.val e) ↔ e = d := by
  show (Sl.val e = Sl.val d) ↔ _
  constructor
  · intro h; cases h; rfl
  · intro h; rw [h]
@[simp] theorem x_okP_raw {d e : V} : okP (.raw d) (.raw e) ↔ e = d := by
  show (Sl.raw e = Sl.raw d) ↔ _
  constructor
  · intro h; cases h; rfl
  · intro h; rw [h]
@[simp] theorem x_okP_ob {d e : OD} : okP (.ob d) (.ob e) ↔ e = d := by
  show (Sl.ob e = Sl.ob d) ↔ _
  constructor
  · intro h; cases h; rfl
  · intro h; rw [h]
@[simp] theorem x_okP_own : okP (.own ds) (.own es) ↔ ds.all atomD = true ∧ es = ds := by
  show (_ ∧ (Sl.own es = Sl.own ds ∨ Sl.own es = Sl.val (.list ds))) ↔ _
  constructor
  · rintro ⟨h, e | e⟩ <;> cases e
    exact ⟨h, rfl⟩
  · rintro ⟨h, rfl⟩; exact ⟨h, .inl rfl⟩
@[simp] theorem x_okP_frz {e : PyData} : okP (.own ds) (.val e) ↔ ds.all atomD = true ∧ e = .list ds := by
  show (_ ∧ (Sl.val e = Sl.own ds ∨ Sl.val e = Sl.val (.list ds))) ↔ _
  constructor
  · rintro ⟨h, e | e⟩ <;> cases e
    exact ⟨h, rfl⟩
  · rintro ⟨h, rfl⟩; exact ⟨h, .inr rfl⟩
@[simp] theorem x_okL_nil : okL [] [] ↔ True := Iff.rfl
@[simp] theorem x_okL_cons {x y : Sl} {r q : List Sl} : okL (x :: r) (y :: q) ↔ okP x y ∧ okL r q := Iff.rfl
@[simp] theorem x_frz0 : frzS [] s = s := Eq.trans rfl rfl
@[simp] theorem x_frz1 {js : List Nat} : frzS (i :: js) s = frzS js (frz1 i s) := Eq.trans rfl rfl
@[simp] theorem x_frzi : frz1 i s = (match s.d[i]? with | some (.own ds) => ⟨s.d.set i (.val (.list ds)), s.w⟩ | _ => s) := Eq.trans rfl rfl
@[simp] theorem x_nEnd_next : nEnd j (.next s) = .next (putS j .no s) := Eq.trans rfl rfl
@[simp] theorem x_nEnd_ret : nEnd j (.ret (.val x) s) = if atomD x = true then .ret (.val x) s else .stuck := Eq.trans rfl rfl
@[simp] theorem x_kNB_new {g : DSt → Flow} : kNB j g s (.ok (.new ds) s1) = if nestOk1 ds ∧ okL (putS j .no s).d (putS j .no s1).d ∧ j < s1.d.length then nEnd j (g (putS j (.val (.list ds)) s1)) else .stuck := Eq.trans rfl rfl
@[simp] theorem x_kNB_tup {g : DSt → Flow} : kNB j g s (.ok (.val (.tuple ds)) s1) = if nestOk ds ∧ sameW s s1 ∧ okL (putS j .no s).d (putS j .no s1).d ∧ j < s1.d.length then nEnd j (g (putS j (.val (.tuple ds)) s1)) else .stuck := Eq.trans rfl rfl
@[simp] theorem x_fNB {js : List Nat} {g : DSt → Flow} : fNB j js f g s = kNB j g (frzS js s) (f (frzS js s)) := Eq.trans rfl rfl
@[simp] theorem x_sameW : sameW ⟨d, w⟩ ⟨d', w'⟩ ↔ w' = w := Iff.rfl
end
end DL

/-! DL34: some of a list of new lists -/
noncomputable section
namespace DL
open PySem L2 PyProof.Rows
open Evl (Ex)
def isValAt (i : Nat) (d : PyData) (s : DSt) : Prop := s.d[i]? = some (.val d)
instance (i : Nat) (d : PyData) (s : DSt) : Decidable (isValAt i d s) := Classical.propDecidable _
def loopFt (i : Nat) (ft : M Bool) (vs : List Nat) : List PyData → List PyData → M (List PyData)
  | [], acc, s => .ok acc s
  | d :: ds, acc, s => if noOwn vs s.d then match bName i d { s with d := blank vs s.d } with
      | none => .stuck
      | some s1 => (nerr (ft s1)).bind fun t s2 => if t then (if isValAt i d s2 then loopFt i ft vs ds (acc ++ [d]) { s2 with d := putBack vs s.d s2.d } else .stuck)
          else loopFt i ft vs ds acc { s2 with d := putBack vs s.d s2.d }
    else .stuck
def fFilt (f : M R) (i : Nat) (ft : M Bool) (vs : List Nat) : M R := fun s => match f s with
  | .ok (.new ds) s1 => if leS ds.length then (loopFt i ft vs ds [] s1).bind (fun acc s => .ok (.new acc) s) else .stuck
  | _ => .stuck
section
variable {K : PySem.W.Frag} {cl : String → Addr} {W : WX}
end
section
variable {X : Cx} {cl : String → Addr} {W : WX} {H0 : Hp} {e : Expr} {f : M R} {pos tpos epos : Pos} {x : Str} {i : Nat}
end
end DL

/-! DL35: the list of own lists itself is longer -/
noncomputable section
namespace DL
open PySem L2 PyProof.Rows
open Evl (Ex)
section
variable {K : PySem.W.Frag} {j : Nat} {Gb Hb G H G' H' : Hp} {sb s s' : DSt} {σb σ : L2.St} {a : Addr} {xs : List V} {ds : List PyData}
end
def nAppO (j : Nat) (es : List PyData) : DSt → Flow := fun s => match s.d[j]? with
  | some (.val (.list ds)) => if ltS ds.length ∧ flatS s.d then .next (putS j (.val (.list (ds ++ [.list es]))) s) else .stuck
  | _ => .stuck
@[simp] theorem x_nAppO {j : Nat} {es : List PyData} {s : DSt} : nAppO j es s = (match s.d[j]? with
  | some (.val (.list ds)) => if ltS ds.length ∧ flatS s.d then .next (putS j (.val (.list (ds ++ [.list es]))) s) else .stuck
  | _ => .stuck) := Eq.trans rfl rfl
section
variable {X : Cx} {cl : String → Addr} {W : WX} {e x : Expr} {f : M R} {pos : Pos} {j : Nat}
end
end DL

/-! DL36: new results: loops, tests, tuples -/
noncomputable section
namespace DL
open PySem L2 PyProof.Rows
open Evl (Ex)
section
variable {X : Cx} {cl : String → Addr} {W : WX} {H0 : Hp} {e a b c tg iter : Expr} {es : List Expr} {f g : M R} {fs : M (List R)} {fi : M (List PyData)} {pos : Pos} {st : Stmt} {rest body as bs : List Stmt} {p q : DSt → Flow}
def fRetA (f : M R) : DSt → Flow := fun s => onRes (f s) fun r s' => match r with
  | .val d => if atomD d = true then .ret (.val d) s' else .stuck
  | _ => .stuck
end
/-! ### a tuple of new lists -/
def elD (r : R) (s : DSt) : Option PyData := match r with
  | .val d => if atomD d = true then some d else none
  | .new ds => if ds.all atomD = true then some (.list ds) else none
  | .slot i => (match s.d[i]? with
    | some (.own ds) => if ds.all atomD = true then some (.list ds) else none
    | _ => none)
  | _ => none
def tupD : List R → DSt → Option (List PyData)
  | [], _ => some []
  | r :: rs, s => match elD r s, tupD rs s with
    | some d, some ds => some (d :: ds)
    | _, _ => none
def okRR : R → R → Prop
  | .new _, .new _ => False
  | .slot i, .slot j => i ≠ j
  | _, _ => True
def okRs (rs : List R) : Prop := rs.Pairwise okRR
instance (rs : List R) : Decidable (okRs rs) := Classical.propDecidable _
def kRetT (rs : List R) (s : DSt) : Flow := match tupD rs s with
  | some ds => if okRs rs ∧ leS ds.length then .ret (.val (.tuple ds)) ⟨List.replicate s.d.length .no, s.w⟩ else .stuck
  | none => .stuck
def fRetT (fs : M (List R)) : DSt → Flow := fun s => onRes (fs s) kRetT
section
variable {K : PySem.W.Frag} {H0 G H G1 H1 : Hp} {s s1 : DSt} {σ : L2.St} {vs : List V} {rs : List R} {ds : List PyData}
end
section
variable {X : Cx} {cl : String → Addr} {W : WX} {H0 : Hp} {es : List Expr} {fs : M (List R)} {pos tpos : Pos}
end
end DL

/-! DL37: new results: the first of two that tells one -/
noncomputable section
namespace DL
open PySem L2 PyProof.Rows
open Evl (Ex)
section
variable {X : Cx} {cl : String → Addr} {W : WX} {H0 : Hp} {e c e1 e2 x0 y0 k0 : Expr} {f g g1 g2 g3 : M R} {pos : Pos} {st : Stmt} {rest : List Stmt} {p q : DSt → Flow}
def kFirst2 (r : R) (s : DSt) : Flow := match r with
  | .val (.tuple ds) => .ret (.val (.tuple ds)) s
  | _ => .stuck
def kFirst (j : Nat) (g3 : M R) (r : R) (s1 : DSt) : Flow := match r with
  | .val (.tuple ds) => if j < s1.d.length then .ret (.val (.tuple ds)) s1 else .stuck
  | .val .none => if j < s1.d.length then onRes (g3 (putS j (.val .none) s1)) kFirst2 else .stuck
  | _ => .stuck
def fFirst (j : Nat) (g2 g3 : M R) : DSt → Flow := fun s => onRes (g2 s) (kFirst j g3)
@[simp] theorem x_first {j : Nat} {s : DSt} : fFirst j g2 g3 s = onRes (g2 s) (kFirst j g3) := Eq.trans rfl rfl
@[simp] theorem y_first_t {j : Nat} {ds : List PyData} {s : DSt} : kFirst j g3 (.val (.tuple ds)) s = (if j < s.d.length then .ret (.val (.tuple ds)) s else .stuck) := Eq.trans rfl rfl
@[simp] theorem y_first_n {j : Nat} {s : DSt} : kFirst j g3 (.val .none) s = if j < s.d.length then onRes (g3 (putS j (.val .none) s)) kFirst2 else .stuck := Eq.trans rfl rfl
@[simp] theorem y_first2 {ds : List PyData} {s : DSt} : kFirst2 (.val (.tuple ds)) s = .ret (.val (.tuple ds)) s := Eq.trans rfl rfl
def sameD (s1 s2 : DSt) : Prop := s2.d = s1.d
instance (s1 s2 : DSt) : Decidable (sameD s1 s2) := Classical.propDecidable _
@[simp] theorem x_sameD {d d' : List Sl} {w w' : Pw} : sameD ⟨d, w⟩ ⟨d', w'⟩ ↔ d' = d := Iff.rfl
def kHead2 (w0 : Str) (ds : List PyData) (q : DSt → Flow) (s1 : DSt) (b : Bool) (s2 : DSt) : Flow := if sameD s1 s2 then (if b = true then (match ds with
  | d0 :: _ => .ret (.val (.tuple [.str w0, d0])) s2
  | [] => .stuck) else q s2) else .stuck
def kHead (i : Nat) (w0 : Str) (t : M Bool) (q : DSt → Flow) (r : R) (s1 : DSt) : Flow := match r with
  | .new ds => if i < s1.d.length then onRes (t (putS i (.val (.list ds)) s1)) (kHead2 w0 ds q (putS i (.val (.list ds)) s1)) else .stuck
  | _ => .stuck
def fHead (i : Nat) (w0 : Str) (g1 : M R) (t : M Bool) (q : DSt → Flow) : DSt → Flow := fun s => onRes (g1 s) (kHead i w0 t q)
@[simp] theorem x_head {i : Nat} {w0 : Str} {t : M Bool} {s : DSt} : fHead i w0 g1 t q s = onRes (g1 s) (kHead i w0 t q) := Eq.trans rfl rfl
@[simp] theorem y_head {i : Nat} {w0 : Str} {t : M Bool} {ds : List PyData} {s : DSt} : kHead i w0 t q (.new ds) s = if i < s.d.length then onRes (t (putS i (.val (.list ds)) s)) (kHead2 w0 ds q (putS i (.val (.list ds)) s)) else .stuck := Eq.trans rfl rfl
@[simp] theorem y_head2c {w0 : Str} {d : PyData} {ds : List PyData} {s1 s2 : DSt} {b : Bool} : kHead2 w0 (d :: ds) q s1 b s2 = if sameD s1 s2 then (if b = true then .ret (.val (.tuple [.str w0, d])) s2 else q s2) else .stuck := Eq.trans rfl rfl
@[simp] theorem y_head2f {w0 : Str} {ds : List PyData} {s1 s2 : DSt} : kHead2 w0 ds q s1 false s2 = if sameD s1 s2 then q s2 else .stuck := by
  unfold kHead2
  rw [if_neg (by decide : ¬ false = true)]
end
end DL

/-! DL38: more statements while a slot holds new lists -/
noncomputable section
namespace DL
open PySem L2 PyProof.Rows
open Evl (Ex)
section
variable {K : PySem.W.Frag} {j : Nat} {Gb Hb G H G' H' : Hp} {sb s s' : DSt} {σb σ : L2.St} {a : Addr} {xs : List V} {ds : List PyData} {L : Bool}
end
def kNSet (k : Nat) (s0 : DSt) (r : R) (s1 : DSt) : Flow := if sameV s0 s1 ∧ k < s1.d.length then (match r with
  | .val d => if atomD d = true then .next (putS k (.val d) s1) else .stuck
  | .new ds => if ds.all atomD = true then .next (putS k (.own ds) s1) else .stuck
  | _ => .stuck) else .stuck
def nSet (k : Nat) (f : M R) : DSt → Flow := fun s => onResN (f s) (kNSet k s)
@[simp] theorem x_nSet {k : Nat} {f : M R} {s : DSt} : nSet k f s = onResN (f s) (kNSet k s) := Eq.trans rfl rfl
@[simp] theorem y_nSet_v {k : Nat} {s0 s1 : DSt} {d : PyData} : kNSet k s0 (.val d) s1 = if sameV s0 s1 ∧ k < s1.d.length then (if atomD d = true then .next (putS k (.val d) s1) else .stuck) else .stuck := Eq.trans rfl rfl
@[simp] theorem y_nSet_n {k : Nat} {s0 s1 : DSt} {ds : List PyData} : kNSet k s0 (.new ds) s1 = if sameV s0 s1 ∧ k < s1.d.length then (if ds.all atomD = true then .next (putS k (.own ds) s1) else .stuck) else .stuck := Eq.trans rfl rfl
section
variable {X : Cx} {cl : String → Addr} {W : WX} {e x iter tg elt : Expr} {f : M R} {pos : Pos} {j : Nat}
def kNRet (r : R) (s1 : DSt) : Flow := match r with
  | .val d => if atomD d = true then .ret (.val d) s1 else .stuck
  | _ => .stuck
@[simp] theorem y_nRet {d : PyData} {s : DSt} : kNRet (.val d) s = if atomD d = true then .ret (.val d) s else .stuck := Eq.trans rfl rfl
def nRet (f : M R) : DSt → Flow := fun s => onResN (f s) kNRet
@[simp] theorem x_nRet {s : DSt} : nRet f s = onResN (f s) kNRet := Eq.trans rfl rfl
def nForS (j i : Nat) (d : PyData) : DSt → Flow := fun s => match s.d[j]? with
  | some (.val (.tuple (d0 :: ds))) => if i < s.d.length ∧ flatS (putS i .no s).d then (match appAll d ds with
    | some ds' => .next (putS j (.val (.tuple (d0 :: ds'))) (putS i .no s))
    | none => .stuck) else .stuck
  | _ => .stuck
@[simp] theorem x_nForS {j i : Nat} {d : PyData} {s : DSt} : nForS j i d s = (match s.d[j]? with
  | some (.val (.tuple (d0 :: ds))) => if i < s.d.length ∧ flatS (putS i .no s).d then (match appAll d ds with
    | some ds' => .next (putS j (.val (.tuple (d0 :: ds'))) (putS i .no s))
    | none => .stuck) else .stuck
  | _ => .stuck) := Eq.trans rfl rfl
end
end DL

/-! DL39: x in range(..) -/
noncomputable section
namespace DL
open PySem L2 PyProof.Rows
open Evl (Ex)
def kInR2 (neg : Bool) (x : R) (rs : List R) (s : DSt) : Res R := match rs with
  | [r] => (match look x s, look r s with
    | some (.int i), some (.int j) => .ok (.val (.bool (if neg = true then !decide (0 ≤ i ∧ i < j) else decide (0 ≤ i ∧ i < j)))) s
    | _, _ => .stuck)
  | _ => .stuck
def kInR (neg : Bool) (fs : M (List R)) (x : R) (s : DSt) : Res R := (fs s).bind (kInR2 neg x)
@[simp] theorem y_kInR {neg : Bool} {fs : M (List R)} {x : R} {s : DSt} : kInR neg fs x s = (fs s).bind (kInR2 neg x) := Eq.trans rfl rfl
@[simp] theorem y_kInR2 {neg : Bool} {x r : R} {s : DSt} : kInR2 neg x [r] s = (match look x s, look r s with
  | some (.int i), some (.int j) => .ok (.val (.bool (if neg = true then !decide (0 ≤ i ∧ i < j) else decide (0 ≤ i ∧ i < j)))) s
  | _, _ => .stuck) := Eq.trans rfl rfl
def fInR (neg : Bool) (f : M R) (fs : M (List R)) : M R := bnd f (kInR neg fs)
@[simp] theorem x_inR {neg : Bool} {f : M R} {fs : M (List R)} {s : DSt} : fInR neg f fs s = (f s).bind (kInR neg fs) := Eq.trans rfl rfl
section
variable {X : Cx} {cl : String → Addr} {W : WX} {e a : Expr} {f : M R} {fs : M (List R)} {pos : Pos}
end
end DL

/-! DL40: more rows for simp -/
noncomputable section
namespace DL
open PySem L2
section
variable {s : DSt} {d : PyData} {ds : List PyData} {i j : Nat} {r : R} {rs : List R} {f : M R} {fs : M (List R)}
@[simp] theorem x_retT : fRetT fs s = onRes (fs s) kRetT := Eq.trans rfl rfl
@[simp] theorem y_kRetT : kRetT rs s = (match tupD rs s with
  | some ds => if okRs rs ∧ leS ds.length then .ret (.val (.tuple ds)) ⟨List.replicate s.d.length .no, s.w⟩ else .stuck
  | none => .stuck) := Eq.trans rfl rfl
@[simp] theorem x_tupD0 : tupD [] s = some [] := Eq.trans rfl rfl
@[simp] theorem x_tupD1 : tupD (r :: rs) s = (match elD r s, tupD rs s with
  | some d, some ds => some (d :: ds)
  | _, _ => none) := Eq.trans rfl rfl
@[simp] theorem x_elD_v : elD (.val d) s = if atomD d = true then some d else none := Eq.trans rfl rfl
@[simp] theorem x_elD_n : elD (.new ds) s = if ds.all atomD = true then some (.list ds) else none := Eq.trans rfl rfl
@[simp] theorem x_elD_s : elD (.slot i) s = (match s.d[i]? with
  | some (.own ds) => if ds.all atomD = true then some (.list ds) else none
  | _ => none) := Eq.trans rfl rfl
@[simp] theorem x_okRs0 : okRs [] ↔ True := ⟨fun _ => trivial, fun _ => .nil⟩
@[simp] theorem x_okRs1 : okRs (r :: rs) ↔ (∀ a ∈ rs, okRR r a) ∧ okRs rs := List.pairwise_cons
@[simp] theorem x_okRR_v1 : okRR (.val d) r ↔ True := by cases r <;> exact Iff.rfl
@[simp] theorem x_okRR_v2 : okRR r (.val d) ↔ True := by cases r <;> exact Iff.rfl
@[simp] theorem x_okRR_ss : okRR (.slot i) (.slot j) ↔ i ≠ j := Iff.rfl
@[simp] theorem x_okRR_ns : okRR (.new ds) (.slot j) ↔ True := Iff.rfl
@[simp] theorem x_okRR_sn : okRR (.slot j) (.new ds) ↔ True := Iff.rfl
def kRetA (r : R) (s' : DSt) : Flow := match r with
  | .val d => if atomD d = true then .ret (.val d) s' else .stuck
  | _ => .stuck
@[simp] theorem y_kRetA : kRetA (.val d) s = if atomD d = true then .ret (.val d) s else .stuck := Eq.trans rfl rfl
@[simp] theorem x_retA : fRetA f s = onRes (f s) kRetA := Eq.trans rfl rfl
end
end DL

/-! DL41: an own list to which new lists are put -/
noncomputable section
namespace DL
open PySem L2 PyProof.Rows
open Evl (Ex)
structure HA (K : PySem.W.Frag) (j : Nat) (H0 Gb : Hp) (sb : DSt) (σb : L2.St) (Hb G : Hp) (s : DSt) (σ : L2.St) (H : Hp) (a : Addr) (xs : List V) (ds : List PyData) : Prop where
  sa : SA K G s σ H
  of : Of H0 s σ H
  stp : Stp Gb sb σb Hb G s σ H
  sj : s.d[j]? = some (.own ds)
  ej : σ[j]? = some (some (.ref a))
  ha : H a = some (.lst xs)
  hd : RpAll K G xs ds
  nw : NewIn H0 ds xs
  ll : ∃ es, ds[0]? = some (.list es)
def HAx (K : PySem.W.Frag) (j : Nat) (H0 Gb : Hp) (sb : DSt) (σb : L2.St) (Hb G : Hp) (s : DSt) (σ : L2.St) (H : Hp) : Prop := ∃ a xs ds, HA K j H0 Gb sb σb Hb G s σ H a xs ds
def frzJ (j : Nat) (s : DSt) : DSt := match s.d[j]? with
  | some (.own ds) => ⟨s.d.set j (.val (.list ds)), s.w⟩
  | _ => s
section
variable {K : PySem.W.Frag} {j : Nat} {H0 Gb Hb G H G' H' : Hp} {sb s s' : DSt} {σb σ : L2.St} {a : Addr} {xs : List V} {ds : List PyData}
theorem HA.jl (N : HA K j H0 Gb sb σb Hb G s σ H a xs ds) : j < s.d.length := (List.getElem?_eq_some_iff.mp N.sj).1
theorem HA.fz (N : HA K j H0 Gb sb σb Hb G s σ H a xs ds) : frzJ j s = ⟨s.d.set j (.val (.list ds)), s.w⟩ := by unfold frzJ; rw [N.sj]
theorem HA.own (N : HA K j H0 Gb sb σb Hb G s σ H a xs ds) : OwnAt s σ j a := ⟨⟨ds, N.sj⟩, N.ej⟩
theorem HA.view (N : HA K j H0 Gb sb σb Hb G s σ H a xs ds) : Stp G s σ H (upd G a (.lst xs)) (frzJ j s) σ H ∧ SA K (upd G a (.lst xs)) (frzJ j s) σ H := by
  obtain ⟨b, ys, e1, hb, st, S, _⟩ := slot_known N.sa N.sj
  rw [N.ej] at e1
  cases e1
  rw [N.ha] at hb
  cases hb
  rw [N.fz]
  exact ⟨st, S⟩
theorem own_set' {i k : Nat} {d : PyData} {x : Addr} : OwnAt ⟨s.d.set i (.val d), s.w⟩ σ k x → k ≠ i ∧ OwnAt s σ k x := fun h => (own_set (s := s)).mp h
theorem HA.thaw (N : HA K j H0 Gb sb σb Hb G s σ H a xs ds) (st : Stp (upd G a (.lst xs)) (frzJ j s) σ H G' s' σ H') (S' : SA K G' s' σ H') (e : sameV (frzJ j s) s') :
    HA K j H0 Gb sb σb Hb (fun x => if x = a then none else G' x) ⟨s.d, s'.w⟩ σ H' a xs ds := by
  obtain ⟨ed, fl⟩ := e
  obtain ⟨stv, Sv⟩ := N.view
  have ga : G a = none := N.sa.ownG j a N.own
  obtain ⟨GT, hGT⟩ : ∃ GT : Hp, GT = fun x => if x = a then none else G' x := ⟨_, rfl⟩
  have gt_a : GT a = none := by rw [hGT]; simp
  have gt_n : ∀ x, x ≠ a → GT x = G' x := fun x h => by rw [hGT]; simp [h]
  rw [← hGT]
  rw [N.fz] at fl
  have fz := N.fz
  have exG : Ex G GT := fun x o e => by
    have hn : x ≠ a := fun z => by subst z; rw [ga] at e; cases e
    rw [gt_n x hn]
    exact st.ex x o (by rw [upd_ne hn]; exact e)
  have exT : Ex GT G' := fun x o e => by
    by_cases z : x = a
    · subst z; rw [gt_a] at e; cases e
    · rwa [gt_n x z] at e
  have owf : ∀ x, Own s σ x → x ≠ a → Own (frzJ j s) σ x := fun x z n => by
    rcases z with ⟨i, z⟩ | z
    · have : i ≠ j := fun q => by subst q; have := z.2; rw [N.ej] at this; cases this; exact n rfl
      refine .inl ⟨i, ?_⟩
      rw [fz]
      exact (own_set (s := s)).mpr ⟨this, z⟩
    · exact .inr (by rw [fz]; exact z)
  have naf : ¬ Own (frzJ j s) σ a := fun z => by
    rcases z with ⟨i, z⟩ | z
    · rw [fz] at z
      obtain ⟨n, z⟩ := own_set' z
      exact n (N.sa.inj i j a z N.own)
    · rw [fz] at z; exact N.sa.pne j a N.own z
  have na' : ¬ Own s' σ a := fun z => (st.own a z).elim naf fun q => by rw [N.ha] at q; cases q
  have h'a : H' a = some (.lst xs) := (st.keep a _ N.ha naf).1
  have own' : ∀ x, Own ⟨s.d, s'.w⟩ σ x → x = a ∨ Own s' σ x := fun x z => by
    rcases z with ⟨i, z⟩ | z
    · by_cases q : i = j
      · subst q
        have := z.2
        rw [N.ej] at this
        cases this
        exact .inl rfl
      · refine .inr (.inl ⟨i, ?_⟩)
        obtain ⟨⟨es, e1⟩, e2⟩ := z
        refine ⟨⟨es, ?_⟩, e2⟩
        rw [ed, fz]
        simp only [List.getElem?_set_ne (Ne.symm q)]
        exact e1
    · exact .inr (.inr z)
  have S2 : SA K GT ⟨s.d, s'.w⟩ σ H' := by
    refine ⟨N.sa.len, fun x o e => S'.gh x o (exT x o e), fun i sl h => ?_, N.sa.inj, fun i x z => ?_, ?_, fun i x z q => ?_⟩
    · by_cases q : i = j
      · subst q
        rw [N.sj] at h
        cases h
        exact ⟨a, xs, by rw [N.ej] <;> rfl, h'a, dps_mono exG _ _ N.hd⟩
      · have z := N.sa.slot i sl h
        have h' : s'.d[i]? = some sl := by rw [ed, fz]; simp only [List.getElem?_set_ne (Ne.symm q)]; exact h
        have z' := S'.slot i sl h'
        cases sl with
        | no => trivial
        | val d => obtain ⟨v, e, hd⟩ := z; exact ⟨v, e, dp_mono exG _ _ hd⟩
        | raw v => exact z
        | ob o => obtain ⟨v, e, hd⟩ := z; exact ⟨v, e, ob_mono exG hd⟩
        | own es =>
          obtain ⟨b, ys, e, hb, hh⟩ := z'
          have h2 : (s.d.set j (Sl.val (PyData.list ds)))[i]? = some (.own es) := by rw [List.getElem?_set_ne (Ne.symm q)]; exact h
          exact ⟨b, ys, e, hb, rps_atom hh (flatS_get fl h2)⟩
    · rcases own' x (.inl ⟨i, z⟩) with e | e
      · rw [e]; exact gt_a
      · by_cases w : x = a
        · rw [w]; exact gt_a
        · rw [gt_n x w]
          rcases e with ⟨k, e⟩ | e
          · exact S'.ownG k x e
          · exact G_pown S'.pw e
    · have q : PwOk G' s'.w H' := S'.pw
      have tn : ∀ x, G' x = none → GT x = none := fun x h => by
        by_cases z : x = a
        · rw [z]; exact gt_a
        · rw [gt_n x z]; exact h
      show PwOk GT s'.w H'
      exact pwok_to q (fun _ _ h _ => h) (fun _ _ h => h) fun x h => tn x (G_pown q h)
    · have q : POwn s'.w x := q
      rcases st.own x (.inr q) with w | w
      · rcases w with ⟨k, w⟩ | w
        · have w' : OwnAt s' σ k x := by
            obtain ⟨⟨es, e1⟩, e2⟩ := w
            exact ⟨⟨es, by rw [ed]; exact e1⟩, e2⟩
          exact S'.pne k x w' q
        · rw [fz] at w; exact N.sa.pne i x z w
      · obtain ⟨ys, e⟩ := N.sa.ownL z
        rw [w] at e; cases e
  have T2 : Stp Gb sb σb Hb GT ⟨s.d, s'.w⟩ σ H' := by
    refine ⟨N.stp.ex.trans exG, fun x o h1 h2 => ?_, fun x z => ?_, fun x h => st.dom x (N.stp.dom x h), fun x h => ?_⟩
    · obtain ⟨h3, h4⟩ := N.stp.keep x o h1 h2
      have no : ¬ Own s σ x := fun z => (N.stp.own x z).elim h2 fun q => by rw [h1] at q; cases q
      have hn : x ≠ a := fun z => no (by rw [z]; exact .inl ⟨j, N.own⟩)
      have nf : ¬ Own (frzJ j s) σ x := fun z => no ((stv.own x z).elim id fun q => by rw [h3] at q; cases q)
      obtain ⟨h5, h6⟩ := st.keep x o h3 nf
      exact ⟨h5, by rw [gt_n x hn, h6, upd_ne hn]; exact h4⟩
    · rcases own' x z with e | e
      · exact N.stp.own x (by rw [e]; exact .inl ⟨j, N.own⟩)
      · rcases st.own x e with w | w
        · exact ((stv.own x w).elim (N.stp.own x) fun q => .inr (Classical.byContradiction fun r => N.stp.dom x r q))
        · exact .inr (Classical.byContradiction fun r => N.stp.dom x r w)
    · have := N.stp.pw x h
      exact st.pw x (by rw [fz]; exact this)
  exact ⟨S2, ⟨fun x h => st.dom x (N.of.dom x h), N.of.own⟩, T2, N.sj, N.ej, h'a, dps_mono exG _ _ N.hd, N.nw, N.ll⟩
end
end DL

/-! DL42: statements while new lists are put to a list -/
noncomputable section
namespace DL
open PySem L2 PyProof.Rows
open Evl (Ex)
instance (d : PyData) : Decidable (flatE d) := Classical.propDecidable _
def HOut (K : PySem.W.Frag) (j : Nat) (H0 Gb : Hp) (sb : DSt) (σb : L2.St) (Hb : Hp) (fl : Flow) (D : Ends) : Prop := match fl with
  | .next s' => ∀ G' σ' H', HAx K j H0 Gb sb σb Hb G' s' σ' H' → D.nx σ' H'
  | .ret r s' => ∀ v G' σ' H', Stp Gb sb σb Hb G' s' σ' H' → SA K G' s' σ' H' → RRel K Hb G' s' σ' H' v r → DeepR K H0 H' s' v r → D.rt v H'
  | _ => False
def tH (K : PySem.W.Frag) (j : Nat) (H0 : Hp) (f : DSt → Flow) : TS := fun D σ H => ∃ Gb sb σb Hb G s, HAx K j H0 Gb sb σb Hb G s σ H ∧ HOut K j H0 Gb sb σb Hb (f s) D
section
variable {K : PySem.W.Frag} {j : Nat} {H0 Gb Hb G H G' H' : Hp} {sb s s' : DSt} {σb σ : L2.St} {a : Addr} {xs : List V} {ds : List PyData}
theorem HA.put (N : HA K j H0 Gb sb σb Hb G s σ H a xs ds) {k : Nat} {d : PyData} {v : V} (kj : k ≠ j) (hk : k < s.d.length) (hv : Rp K G v d) : HA K j H0 Gb sb σb Hb G (putS k (.val d) s) (σ.set k (some v)) H a xs ds := by
  have ho : ∀ i x, OwnAt (putS k (.val d) s) (σ.set k (some v)) i x → OwnAt s σ i x := fun i x z => by
    rcases own_put hk N.sa.len z with ⟨_, ⟨es, e⟩, _⟩ | ⟨_, z⟩
    · cases e
    · exact z
  refine ⟨put_ok N.sa hk ⟨v, rfl, hv⟩ (by intro _ _ z; cases z), ⟨N.of.dom, fun i x z => N.of.own i x (ho i x z)⟩, put_stp N.sa N.stp hk (by intro _ _ z; cases z), ?_, ?_, N.ha, N.hd, N.nw, N.ll⟩
  · simp only [putS]; rw [List.getElem?_set_ne kj]; exact N.sj
  · rw [List.getElem?_set_ne kj]; exact N.ej
theorem HA.app (N : HA K j H0 Gb sb σb Hb G s σ H a xs ds) {c : Addr} {ws : List V} {es : List PyData} (hc : H c = some (.lst ws)) (hd : RpAll K G ws es) (gc : G c = none) (nc : ¬ Own s σ c) (h0 : H0 c = none) (hb : Hb c = none) :
    HA K j H0 Gb sb σb Hb (upd G c (.lst ws)) (putS j (.own (ds ++ [.list es])) s) σ (upd H a (.lst (xs ++ [.ref c]))) a (xs ++ [.ref c]) (ds ++ [.list es]) := by
  obtain ⟨exK, SK, rpK⟩ := know N.sa hc hd gc nc
  obtain ⟨stW, SW⟩ := own_write SK N.sj N.ej (dps_app (dps_mono exK _ _ N.hd) (.cons rpK .nil))
  have stK : Stp Gb sb σb Hb (upd G c (.lst ws)) s σ H := ⟨N.stp.ex.trans exK, fun x o h1 h2 => by
    obtain ⟨h3, h4⟩ := N.stp.keep x o h1 h2
    exact ⟨h3, by rw [upd_ne fun z => by subst z; rw [hb] at h1; cases h1]; exact h4⟩, N.stp.own, N.stp.dom, N.stp.pw⟩
  have oK : Of H0 s σ H := N.of
  refine ⟨SW, oK.step stW SW, stK.trans stW, ?_, N.ej, upd_same, dps_app (dps_mono exK _ _ N.hd) (.cons rpK .nil), ?_, ?_⟩
  · simp only [putS]; exact List.getElem?_set_self N.jl
  · intro i b fs e1 e2
    have hl := dps_len N.hd
    by_cases q : i < ds.length
    · rw [List.getElem?_append_left q] at e1
      rw [List.getElem?_append_left (by omega)] at e2
      exact N.nw i b fs e1 e2
    · have hi : i = ds.length := by
        have := (List.getElem?_eq_some_iff.mp e1).1
        simp at this
        omega
      subst hi
      rw [List.getElem?_append_right (by omega), hl] at e2
      simp at e2
      subst e2
      exact h0
  · obtain ⟨fs, e⟩ := N.ll
    refine ⟨fs, ?_⟩
    have := (List.getElem?_eq_some_iff.mp e).1
    rw [List.getElem?_append_left this]
    exact e
end
section
variable {X : Cx} {cl : String → Addr} {W : WX} {H0 : Hp} {e c x e1 : Expr} {f f1 : M R} {pos : Pos} {st : Stmt} {rest body : List Stmt} {p q g : DSt → Flow} {j : Nat}
def kHSet (k : Nat) (s s0 : DSt) (r : R) (s1 : DSt) : Flow := match r with
  | .val d => if sameV s0 s1 ∧ k < s.d.length ∧ flatE d then .next (putS k (.val d) ⟨s.d, s1.w⟩) else .stuck
  | _ => .stuck
def hSet (j k : Nat) (f : M R) : DSt → Flow := fun s => onResN (f (frzJ j s)) (kHSet k s (frzJ j s))
def kHApp (j : Nat) (s s0 : DSt) (r : R) (s1 : DSt) : Flow := match r, s.d[j]? with
  | .new es, some (.own ds) => if sameV s0 s1 ∧ es.all atomD = true ∧ ltS ds.length then .next (putS j (.own (ds ++ [.list es])) ⟨s.d, s1.w⟩) else .stuck
  | _, _ => .stuck
def hApp (j : Nat) (f : M R) : DSt → Flow := fun s => onResN (f (frzJ j s)) (kHApp j s (frzJ j s))
def whileH (j : Nat) (t : M Bool) (p : DSt → Flow) : Nat → DSt → Flow
  | 0, _ => .stuck
  | n + 1, s => match t (frzJ j s) with
    | .ok b s1 => if sameV (frzJ j s) s1 then (if b = true then (match p ⟨s.d, s1.w⟩ with
      | .next s2 => whileH j t p n s2
      | _ => .stuck) else .next ⟨s.d, s1.w⟩) else .stuck
    | _ => .stuck
def hRet (j : Nat) : DSt → Flow := fun s => .ret (.slot j) s
def hEnd (fl : Flow) : Flow := match fl with
  | .ret r s => .ret r s
  | _ => .stuck
def hStart (j : Nat) (f1 : M R) (g : DSt → Flow) : DSt → Flow := fun s => match f1 s with
  | .ok (.new d1) s1 => if j < s1.d.length ∧ d1.all atomD = true then hEnd (g (putS j (.own [.list d1]) s1)) else .stuck
  | _ => .stuck
end
end DL

/-! DL43: a list of new lists, made item by item -/
noncomputable section
namespace DL
open PySem L2 PyProof.Rows
open Evl (Ex)
def loopCN (b : Bd) (fe : M R) (vs : List Nat) : List PyData → List PyData → M (List PyData)
  | [], acc, s => .ok acc s
  | d :: ds, acc, s => if noOwn vs s.d then match b d { s with d := blank vs s.d } with
      | none => .stuck
      | some s1 => (nerr (fe s1)).bind fun r s3 => match r with
            | .new es => loopCN b fe vs ds (acc ++ [.list es]) { s3 with d := putBack vs s.d s3.d }
            | _ => .stuck
    else .stuck
def fLcN (fi : M (List PyData)) (b : Bd) (fe : M R) (vs : List Nat) : M R := bnd fi fun ds => bnd (fun s => if leS (ds.length) then loopCN b fe vs ds [] s else .stuck) fun acc => ret (.new acc)
section
variable {K : PySem.W.Frag} {cl : String → Addr} {W : WX}
end
def kNSetK (k : Nat) (s0 : DSt) (r : R) (s1 : DSt) : Flow := match r with
  | .new ds => if sameV s0 s1 ∧ k < s1.d.length ∧ nestOk ds then .next (putS k (.val (.list ds)) s1) else .stuck
  | _ => .stuck
def nSetK (k : Nat) (f : M R) : DSt → Flow := fun s => onResN (f s) (kNSetK k s)
@[simp] theorem x_nSetK {k : Nat} {f : M R} {s : DSt} : nSetK k f s = onResN (f s) (kNSetK k s) := Eq.trans rfl rfl
@[simp] theorem y_nSetK {k : Nat} {s0 s1 : DSt} {ds : List PyData} : kNSetK k s0 (.new ds) s1 = if sameV s0 s1 ∧ k < s1.d.length ∧ nestOk ds then .next (putS k (.val (.list ds)) s1) else .stuck := Eq.trans rfl rfl
section
variable {X : Cx} {cl : String → Addr} {W : WX} {iter tg elt : Expr} {pos : Pos} {j : Nat}
end
end DL

/-! DL44: rows for simp: new lists put to an own list -/
noncomputable section
namespace DL
open PySem L2
section
variable {s s1 s0 : DSt} {d : List Sl} {w : Pw} {x : PyData} {ds es : List PyData} {j k : Nat} {f : M R} {g : DSt → Flow} {r : R}
@[simp] theorem x_frzJ : frzJ j ⟨d, w⟩ = (match d[j]? with
  | some (.own ds) => ⟨d.set j (.val (.list ds)), w⟩
  | _ => ⟨d, w⟩) := Eq.trans rfl rfl
@[simp] theorem y_kHSet : kHSet k s s0 (.val x) s1 = if sameV s0 s1 ∧ k < s.d.length ∧ flatE x then .next (putS k (.val x) ⟨s.d, s1.w⟩) else .stuck := Eq.trans rfl rfl
@[simp] theorem x_hSet : hSet j k f s = onResN (f (frzJ j s)) (kHSet k s (frzJ j s)) := Eq.trans rfl rfl
@[simp] theorem y_kHApp : kHApp j s s0 (.new es) s1 = (match s.d[j]? with
  | some (.own ds) => if sameV s0 s1 ∧ es.all atomD = true ∧ ltS ds.length then .next (putS j (.own (ds ++ [.list es])) ⟨s.d, s1.w⟩) else .stuck
  | _ => .stuck) := by unfold kHApp; cases h : s.d[j]? with | none => rfl | some y => cases y <;> rfl
@[simp] theorem x_hApp : hApp j f s = onResN (f (frzJ j s)) (kHApp j s (frzJ j s)) := Eq.trans rfl rfl
@[simp] theorem x_hRet : hRet j s = .ret (.slot j) s := Eq.trans rfl rfl
@[simp] theorem x_hEnd : hEnd (.ret r s) = .ret r s := Eq.trans rfl rfl
def kHStart (j : Nat) (g : DSt → Flow) (r : R) (s1 : DSt) : Flow := match r with
  | .new d1 => if j < s1.d.length ∧ d1.all atomD = true then hEnd (g (putS j (.own [.list d1]) s1)) else .stuck
  | _ => .stuck
@[simp] theorem y_kHStart : kHStart j g (.new ds) s1 = if j < s1.d.length ∧ ds.all atomD = true then hEnd (g (putS j (.own [.list ds]) s1)) else .stuck := Eq.trans rfl rfl
@[simp] theorem x_hStart : hStart j f g s = onResN (f s) (kHStart j g) := by
  unfold hStart onResN kHStart
  cases f s with
  | ok r s1 => cases r <;> rfl
  | _ => rfl
@[simp] theorem x_flatE_int {n : Int} : flatE (.int n) ↔ True := by simp [flatE]
@[simp] theorem x_flatE_none : flatE .none ↔ True := by simp [flatE]
@[simp] theorem x_flatE_list : flatE (.list ds) ↔ ds.all atomD = true := by simp [flatE]
end
end DL

/-! DL45: a loop each turn of which begins with a list of numbers that is then drawn from -/
noncomputable section
namespace DL
open PySem L2 PyProof.Rows
open Evl (Ex)
def kScCut (k : Nat) (x : R) (s : DSt) : Res R := match x with
  | .ob (.scr ns) => .ok (.new ((ns.take k).map .int)) s
  | _ => .stuck
def fScCut (k : Nat) (f : M R) : M R := bnd f (kScCut k)
@[simp] theorem x_scCut {k : Nat} {f : M R} {s : DSt} : fScCut k f s = (f s).bind (kScCut k) := Eq.trans rfl rfl
@[simp] theorem y_kScCut {k : Nat} {ns : List Int} {s : DSt} : kScCut k (.ob (.scr ns)) s = .ok (.new ((ns.take k).map .int)) s := Eq.trans rfl rfl
section
variable {X : Cx} {cl : String → Addr} {W : WX} {a : Expr} {f : M R} {pos : Pos}
theorem d_scCut {k j : Nat} {p1 p2 : Pos} (ha : DE X cl W a f) : DE X cl W (.Subscript a (.Slice none (some (.Constant (.int (k : Int)) j p1)) none p2) pos) (fScCut k f) := by
  refine pe_imp (pe_slice sl_list ha po_none (po_some pe_int)) fun σ H Q ⟨G, s, S, q⟩ => ?_
  refine ⟨G, s, S, out_mono (out_bind q) fun r G1 s1 H1 st1 S1 k1 v rr => ?_⟩
  unfold kScCut at k1
  split at k1
  · rename_i ns
    obtain ⟨p, rfl, hl⟩ := rr
    refine ⟨k, rfl, p, _, rfl, Evl.ex_l S1.gh hl, fun p0 hp0 => ?_⟩
    have ec : cutV (ns.map V.int) none (some (k : Int)) = (ns.take k).map V.int := by
      unfold cutV
      have e1 : HT.sIx (ns.map V.int).length 0 none = 0 := rfl
      rw [e1, List.map_take]
      have e2 : HT.sIx (ns.map V.int).length (ns.map V.int).length (some (k : Int)) = min k (ns.map V.int).length := by
        unfold HT.sIx
        simp
        try omega
      rw [e2]
      simp only [List.drop_zero, Nat.sub_zero]
      rw [List.take_eq_take_iff]
      omega
    rw [ec]
    obtain ⟨st2, S2, r2⟩ := new_list (H0 := H) S1 hp0 (rp_ints (ns.take k)) st1.dom
    exact k1 G1 _ st2 S2 _ r2
  · exact k1.elim
end
/-! ### -/
def clearZ : List Sl → Prop
  | [] => True
  | .own _ :: _ => False
  | _ :: r => clearZ r
def keepZ : List Sl → List Sl → Prop
  | [], [] => True
  | x :: a, y :: b => (x = .no ∨ y = x) ∧ keepZ a b
  | _, _ => False
theorem clearZ_get : ∀ {d : List Sl} {i : Nat} {ds : List PyData}, clearZ d → d[i]? ≠ some (.own ds)
  | [], _, _, _, e => by simp at e
  | x :: r, 0, ds, h, e => by
    simp at e
    subst e
    exact h
  | x :: r, i + 1, ds, h, e => by
    have h' : clearZ r := by cases x <;> first | exact h | exact h.elim
    exact clearZ_get h' (by simpa using e)
theorem keepZ_get : ∀ {a b : List Sl} {i : Nat} {x : Sl}, keepZ a b → a[i]? = some x → x = .no ∨ b[i]? = some x
  | [], _, i, x, _, e => by simp at e
  | _ :: _, [], _, _, h, _ => h.elim
  | u :: a, v :: b, 0, x, h, e => by
    simp at e
    subst e
    rcases h.1 with q | q
    · exact .inl q
    · exact .inr (by simp [q])
  | u :: a, v :: b, i + 1, x, h, e => by
    have := keepZ_get (i := i) h.2 (by simpa using e)
    simpa using this
theorem keepZ_len : ∀ {a b : List Sl}, keepZ a b → b.length = a.length
  | [], [], _ => rfl
  | [], _ :: _, h => h.elim
  | _ :: _, [], h => h.elim
  | _ :: a, _ :: b, h => by simp [keepZ_len h.2]
def goodW (b : Bd) (k : Nat) (f : M R) (q : DSt → Flow) (ds : List PyData) (s1 : DSt) : Prop := s1.w = none ∧ clearZ s1.d ∧ ∀ d ∈ ds, ∃ (s4 s5 : DSt) (cells : List Int), b d s1 = some s4 ∧ f s4 = .ok (.new (cells.map .int)) s5 ∧ s5.w = none ∧ k < s5.d.length ∧
  ∀ pa : Addr, ∃ s6, q ⟨s5.d.set k (.raw (.ref pa)), some (pa, pa, cells, 0)⟩ = .next s6 ∧ keepZ s1.d s6.d
instance instDecGoodW (b : Bd) (k : Nat) (f : M R) (q : DSt → Flow) (ds : List PyData) (s1 : DSt) : Decidable (goodW b k f q ds s1) := Classical.propDecidable _
def kForW (b : Bd) (k : Nat) (f : M R) (q : DSt → Flow) (ds : List PyData) (s1 : DSt) : Flow := if goodW b k f q ds s1 then .next s1 else .stuck
def fForW (fi : M (List PyData)) (b : Bd) (k : Nat) (f : M R) (q : DSt → Flow) : DSt → Flow := fun s => onRes (fi s) (kForW b k f q)
@[simp] theorem x_forW {fi : M (List PyData)} {b : Bd} {k : Nat} {f : M R} {q : DSt → Flow} {s : DSt} : fForW fi b k f q s = onRes (fi s) (kForW b k f q) := Eq.trans rfl rfl
theorem y_kForW {b : Bd} {k : Nat} {f : M R} {q : DSt → Flow} {ds : List PyData} {s : DSt} (h : goodW b k f q ds s) : kForW b k f q ds s = .next s := if_pos h
section
variable {X : Cx} {cl : String → Addr} {W : WX} {e tg iter : Expr} {f : M R} {fi : M (List PyData)} {pos pos2 : Pos} {q : DSt → Flow}
theorem noOwnZ {s : DSt} {σ : L2.St} {x : Addr} (h : clearZ s.d) (hw : s.w = none) (z : Own s σ x) : TOwn x := by
  rcases z with ⟨i, ⟨ds, e⟩, _⟩ | z
  · exact (clearZ_get h e).elim
  · rw [hw] at z; exact z.elim False.elim id
theorem noOwnY {s : DSt} {σ : L2.St} {j : Nat} {x : Addr} (h : clearZ s.d) : ¬ OwnAt s σ j x := fun ⟨⟨ds, e⟩, _⟩ => clearZ_get h e
theorem s_forW {rest : List Stmt} {gg : TG} {bd : Bd} {js : List Nat} {k : Nat} {y : Str} {py : Pos} (hp : PassesOwn (model X.prog X.w) X.A X.env X.xe) (hc : X.calm = true) (hi : DI X cl W tg iter fi) (hg : PG X tg gg) (ho : GOk X.K gg bd js)
    (hN : X.N.Nodup) (hk : X.N[k]? = some y) (hy : Loc X.env.scope y) (he : DE X cl W e f) (hr : DSs X cl W rest q)
    (hsw : swapsWith e (some (.Name y py)) pos2.line X.env = pure false := by rfl) (hf : X.fn y = true ∨ X.env.scope.names.lookup y = some .local := by first | exact .inl rfl | exact .inr rfl | assumption)
    (hs : ∀ x, foldedSetIterable iter X.env x = pure x := by intro _; rfl) : DS X cl W (.For tg iter (.Assign [.Name y py] e pos2 :: rest) [] pos) (fForW fi bd k f q) := by
  refine ps_imp (ps_for hp hc hi hg (pss_cons (ps_set hN hk hy he hsw hf) hr) hs) fun D σ H ⟨G, s, S, h⟩ => ⟨G, s, S, out_mono (fout_res h) fun ds G1 s1 H1 st1 S1 kk J hJ => ?_⟩
  have kk := fout_shift st1 kk
  unfold kForW at kk
  split at kk
  rotate_left
  · exact kk.elim
  rename_i hgood
  obtain ⟨w1, cz, good⟩ := hgood
  refine ⟨fun i m σ2 H2 => ∃ G2, SA X.K G2 s1 σ2 H2 ∧ Ex G1 G2 ∧ m = ds.length - i ∧ i ≤ ds.length ∧ Stp G1 s1 σ H1 G2 s1 σ2 H2, ⟨ds.length, G1, S1, Ex.refl G1, by simp, Nat.zero_le _, Stp.refl⟩, ?_⟩
  rintro i m σ2 H2 ⟨G2, S2, ex2, rfl, hi, st2⟩
  obtain ⟨j1, j2⟩ := hJ G2 s1 σ2 H2 ex2 S2 i
  by_cases hl : i < ds.length
  · obtain ⟨go, yl⟩ := j1 ds[i] (List.getElem?_eq_getElem hl)
    obtain ⟨s4, s5, cells, eb, ef, w5, k5, hq⟩ := good ds[i] (List.getElem_mem hl)
    refine .inr ⟨go, fun σ3 H3 => ∃ G3, SA X.K G3 s1 σ3 H3 ∧ Ex G1 G3 ∧ Stp G1 s1 σ H1 G3 s1 σ3 H3, fun σ3 H3 ⟨G3, S3, ex3, st3⟩ => ⟨ds.length - (i + 1), by omega, G3, S3, ex3, rfl, hl, st3⟩, fun x H3 y => ?_⟩
    obtain ⟨G3, st3, S3, rp⟩ := yl x H3 y
    refine ho x ds[i] G3 s1 σ2 H3 s4 _ S3 rp eb fun σ4 l4 n4 m4 w4 st4 S4 => ?_
    refine ⟨G3, s4, S4, ?_⟩
    rw [ef]
    intro G5 H5 st5 S5 v rr
    obtain ⟨pa, xs, rfl, ha, hd, hga, h0, hn⟩ := rr
    have exs : xs = cells.map V.int := ints_rp hd (by simp)
    subst exs
    have Sp := put_ok S5 k5 (x := .raw (.ref pa)) (v := .ref pa) rfl (fun _ _ z => nomatch z)
    have stp : Stp G3 s4 σ4 H3 G5 (putS k (.raw (.ref pa)) s5) (σ4.set k (some (.ref pa))) H5 := put_stp S5 st5 k5 (fun _ _ z => nomatch z)
    have w4n : s4.w = none := w4.trans w1
    have ow : ∀ j c, OwnAt (putS k (.raw (.ref pa)) s5) (σ4.set k (some (.ref pa))) j c → c ≠ pa := fun j c z q => by
      subst q
      rcases own_put k5 S5.len z with ⟨_, ⟨_, e⟩, _⟩ | ⟨_, z⟩
      · cases e
      · exact hn (.inl ⟨j, z⟩)
    have S6 : SA X.K G5 ⟨s5.d.set k (.raw (.ref pa)), some (pa, pa, cells, 0)⟩ (σ4.set k (some (.ref pa))) H5 := ⟨Sp.len, Sp.gh, Sp.slot, Sp.inj, Sp.ownG, ⟨⟨trivial, by rw [pwA_eq]; exact ha, ha, hga, hga⟩, Sp.pw.2⟩, fun j c z q => q.elim (fun q => ow j c z (q.elim id id)) fun q => Sp.pne j c z (.inr q)⟩
    have st6 : Stp G3 s4 σ4 H3 G5 ⟨s5.d.set k (.raw (.ref pa)), some (pa, pa, cells, 0)⟩ (σ4.set k (some (.ref pa))) H5 := ⟨stp.ex, stp.keep, fun c z => by
      rcases z with z | z
      · exact stp.own c (.inl z)
      · rcases z with z | z
        · have : c = pa := z.elim id id
          subst this
          exact .inr h0
        · exact .inl (.inr (.inr z)), stp.dom, fun c z => by rw [w4n] at z; exact z.elim False.elim fun z => .inr z⟩
    obtain ⟨s6, eq, kz⟩ := hq pa
    refine ⟨G5, _, S6, ?_⟩
    rw [eq]
    intro G7 σ7 H7 st7 S7
    have stA : Stp G2 s1 σ2 H2 G7 s6 σ7 H7 := (st3.trans st4).trans (st6.trans st7)
    have stR : Stp G2 s1 σ2 H2 G7 s1 σ7 H7 := ⟨stA.ex, stA.keep, fun c z => .inl (.inr (.inr (noOwnZ cz w1 z))), stA.dom, fun c z => by rw [w1] at z; exact .inr (z.elim False.elim id)⟩
    refine ⟨G7, ⟨by rw [← S7.len]; exact (keepZ_len kz).symm, S7.gh, fun j sl e => ?_, fun j _ c z => (noOwnY cz z).elim, fun j c z => (noOwnY cz z).elim, by rw [w1]; exact ⟨trivial, S7.pw.2⟩, fun j c z => (noOwnY cz z).elim⟩, ex2.trans stR.ex, st2.trans stR⟩
    rcases keepZ_get kz e with q | q
    · subst q; trivial
    · exact S7.slot j sl q
  · have e : i = ds.length := by omega
    subst e
    exact .inl ⟨j2 (Nat.le_refl _), kk G2 σ2 H2 st2 S2⟩
end
end DL

/-! DL46: texts cut up -/
noncomputable section
namespace DL
open PySem L2 PyProof.Rows
open Evl (Ex)
def kSplitB (a : Str) (y : R) (s : DSt) : Res R := match look y s with
  | some (.str b) => if (b.length == 0) = false ∧ leS (a.length + 2) then .ok (.new ((Txt.split a b).map .str)) s else .stuck
  | _ => .stuck
def kSplitA (g : M R) (x : R) (s : DSt) : Res R := match look x s with
  | some (.str a) => (g s).bind (kSplitB a)
  | _ => .stuck
def fSplit (f g : M R) : M R := bnd f (kSplitA g)
@[simp] theorem x_split {f g : M R} {s : DSt} : fSplit f g s = (f s).bind (kSplitA g) := Eq.trans rfl rfl
@[simp] theorem y_kSplitA {g : M R} {a : Str} {s : DSt} : kSplitA g (.val (.str a)) s = (g s).bind (kSplitB a) := Eq.trans rfl rfl
@[simp] theorem y_kSplitB {a b : Str} {s : DSt} : kSplitB a (.val (.str b)) s = if (b.length == 0) = false ∧ leS (a.length + 2) then .ok (.new ((Txt.split a b).map .str)) s else .stuck := Eq.trans rfl rfl
theorem rp_strs {K : PySem.W.Frag} {G : Hp} : ∀ ws : List Str, RpAll K G (ws.map V.str) (ws.map .str)
  | [] => .nil
  | a :: ws => .cons (.str a) (rp_strs ws)
section
variable {X : Cx} {cl : String → Addr} {W : WX} {a b : Expr} {f g : M R} {pos : Pos}
theorem d_split {apos : Pos} (ha : DE X cl W a f) (hb : DE X cl W b g) (hs : starEach [b] X.env = [(false, eval b X.env)] := by rfl) (hbase : attributeBase a "split" X.env (eval a X.env) = eval a X.env := by rfl) (hline : (apos.endLine == pos.line) = true := by rfl) :
    DE X cl W (.Call (.Attribute a "split" apos) [b] [] pos) (fSplit f g) := by
  refine pe_imp (pe_split ha hb hs hbase hline) fun σ H Q ⟨G, s, S, q⟩ => ?_
  refine ⟨G, s, S, out_mono (out_bind q) fun r G1 s1 H1 st1 S1 k1 v rr => ?_⟩
  unfold kSplitA at k1
  split at k1
  · rename_i x e1
    obtain rfl := dq_str (look_q S1 rr e1)
    refine ⟨⟨x, rfl⟩, G1, s1, S1, out_mono (out_bind k1) fun r2 G2 s2 H2 st2 S2 k2 u ru => ?_⟩
    unfold kSplitB at k2
    split at k2
    · rename_i y e2
      obtain rfl := dq_str (look_q S2 ru e2)
      split at k2
      · rename_i hh
        refine ⟨x, y, rfl, rfl, hh.1, hh.2, fun p0 hp0 => ?_⟩
        obtain ⟨st3, S3, r3⟩ := new_list (H0 := H) S2 hp0 (rp_strs (Txt.split x y)) (st1.trans st2).dom
        exact k2 G2 _ st3 S3 _ r3
      · exact k2.elim
    · exact k2.elim
  · exact k1.elim
end
end DL

/-! DL47: sorted(set(e)), e a list of twos of numbers -/
noncomputable section
namespace DL
open PySem L2 PyProof.Rows
open Evl (Ex)
def prT (p : Int × Int) : PyData := .tuple [.int p.1, .int p.2]
def pairD : PyData → Option (Int × Int)
  | .tuple [.int a, .int b] => some (a, b)
  | _ => none
def pairsD : List PyData → Option (List (Int × Int))
  | [] => some []
  | d :: r => match pairD d, pairsD r with
    | some p, some ps => some (p :: ps)
    | _, _ => none
@[simp] theorem pairD_prT (p : Int × Int) : pairD (prT p) = some p := rfl
/-! ### rising twos -/
def ltP (p q : Int × Int) : Prop := p.1 < q.1 ∨ (p.1 = q.1 ∧ p.2 < q.2)
instance (p q : Int × Int) : Decidable (ltP p q) := by unfold ltP; infer_instance
def insP (p : Int × Int) : List (Int × Int) → List (Int × Int)
  | [] => [p]
  | q :: r => if p = q then q :: r else if ltP p q then p :: q :: r else q :: insP p r
def setP : List (Int × Int) → List (Int × Int)
  | [] => []
  | p :: r => insP p (setP r)
/-! ### -/
def nnP (ps : List (Int × Int)) : Prop := ∀ p ∈ ps, 0 ≤ p.1 ∧ 0 ≤ p.2
instance instDecNnP (ps : List (Int × Int)) : Decidable (nnP ps) := Classical.propDecidable _
def kSortSetP (r : R) (s : DSt) : Res R := match look r s with
  | some (.list ds) => (match pairsD ds with
    | some ps => if ps.length < 64 ∧ nnP ps then .ok (.new ((setP ps).map prT)) s else .stuck
    | none => .stuck)
  | _ => .stuck
@[simp] theorem y_kSortSetP (r : R) (s : DSt) : kSortSetP r s = (match look r s with | some (.list ds) => (match pairsD ds with | some ps => if ps.length < 64 ∧ nnP ps then .ok (.new ((setP ps).map prT)) s else .stuck | none => .stuck) | _ => .stuck) := Eq.trans rfl rfl
def fSortSetP (f : M R) : M R := bnd f kSortSetP
@[simp] theorem x_sortSetP {f : M R} {s : DSt} : fSortSetP f s = (f s).bind kSortSetP := Eq.trans rfl rfl
section
variable {X : Cx} {cl : String → Addr} {W : WX} {e a b c : Expr} {f g : M R} {pos : Pos}
end
end DL

/-! DL48: range downwards; x[i], x[j] = a, b of an own list -/
noncomputable section
namespace DL
open PySem L2 PyProof.Rows
open Evl (Ex)
def downD (lo : Int) (n : Nat) : List PyData := (List.range n).map fun (k : Nat) => PyData.int (lo - (k : Int))
def kRng3 (rs : List R) (s : DSt) : Res (List PyData) := match rs with
  | [r, r2, r3] => match look r s, look r2 s, look r3 s with
    | some (.int i), some (.int j), some (.int c) => if c = -1 ∧ inB i ∧ inB j then .ok (downD i (i - j).toNat) s else .stuck
    | _, _, _ => .stuck
  | _ => .stuck
def fRng3 (fs : M (List R)) : M (List PyData) := bnd fs kRng3
@[simp] theorem x_rng3 {fs : M (List R)} {s : DSt} : fRng3 fs s = (fs s).bind kRng3 := Eq.trans rfl rfl
@[simp] theorem y_kRng3 (rs : List R) (s : DSt) : kRng3 rs s = (match rs with
  | [r, r2, r3] => match look r s, look r2 s, look r3 s with
    | some (.int i), some (.int j), some (.int c) => if c = -1 ∧ inB i ∧ inB j then .ok (downD i (i - j).toNat) s else .stuck
    | _, _, _ => .stuck
  | _ => .stuck) := Eq.trans rfl rfl
section
variable {X : Cx} {cl : String → Addr} {W : WX} {tg a b c e : Expr} {f g1 g2 : M R} {fs : M (List R)} {pos : Pos}
def kSwap3 (i : Nat) (d2 : PyData) (r : R) (s : DSt) : Flow := match look r s, s.d[i]? with
  | some (.int n), some (.own ds) => (match ixN ds.length n with
    | some j => .next (putS i (.own (ds.set j d2)) s)
    | none => .stuck)
  | _, _ => .stuck
def kSwap2 (i : Nat) (d1 d2 : PyData) (g2 : M R) (r : R) (s : DSt) : Flow := match look r s, s.d[i]? with
  | some (.int n), some (.own ds) => (match ixN ds.length n with
    | some j => onRes (g2 (putS i (.own (ds.set j d1)) s)) (kSwap3 i d2)
    | none => .stuck)
  | _, _ => .stuck
def kSwap1 (i : Nat) (g1 g2 : M R) (r : R) (s : DSt) : Flow := match r with
  | .val (.tuple [d1, d2]) => onRes (g1 s) (kSwap2 i d1 d2 g2)
  | _ => .stuck
def fSwap (i : Nat) (f g1 g2 : M R) : DSt → Flow := fun s => if isOwn i s = true then onRes (f s) (kSwap1 i g1 g2) else .stuck
@[simp] theorem x_swap {i : Nat} {f g1 g2 : M R} {s : DSt} : fSwap i f g1 g2 s = if isOwn i s = true then onRes (f s) (kSwap1 i g1 g2) else .stuck := Eq.trans rfl rfl
@[simp] theorem y_kSwap1 {i : Nat} {d1 d2 : PyData} {g1 g2 : M R} {s : DSt} : kSwap1 i g1 g2 (.val (.tuple [d1, d2])) s = onRes (g1 s) (kSwap2 i d1 d2 g2) := Eq.trans rfl rfl
@[simp] theorem y_kSwap2 (i : Nat) (d1 d2 : PyData) (g2 : M R) (r : R) (s : DSt) : kSwap2 i d1 d2 g2 r s = (match look r s, s.d[i]? with
  | some (.int n), some (.own ds) => (match ixN ds.length n with
    | some j => onRes (g2 (putS i (.own (ds.set j d1)) s)) (kSwap3 i d2)
    | none => .stuck)
  | _, _ => .stuck) := Eq.trans rfl rfl
@[simp] theorem y_kSwap3 (i : Nat) (d2 : PyData) (r : R) (s : DSt) : kSwap3 i d2 r s = (match look r s, s.d[i]? with
  | some (.int n), some (.own ds) => (match ixN ds.length n with
    | some j => .next (putS i (.own (ds.set j d2)) s)
    | none => .stuck)
  | _, _ => .stuck) := Eq.trans rfl rfl
theorem s_swap {i : Nat} {x y k l : Expr} {p1 p2 pt : Pos} {kt : Nat} (hc : X.calm = true) (he : DE X cl W e f) (hx : PE X x (tVar i)) (hk : DE X cl W k g1) (hy : PE X y (tVar i)) (hl : DE X cl W l g2)
    (ha : ∀ v, assign (.Subscript x k p1) X.env v = (do
      let ov ← holding [v] (eval x X.env)
      let iv ← holding [v, ov] (eval k X.env)
      standAt p1
      holding [v, ov, iv] (setItem ov iv v)
      release [v, ov, iv] []) := by intro _; rfl)
    (hb : ∀ v, assign (.Subscript y l p2) X.env v = (do
      let ov ← holding [v] (eval y X.env)
      let iv ← holding [v, ov] (eval l X.env)
      standAt p2
      holding [v, ov, iv] (setItem ov iv v)
      release [v, ov, iv] []) := by intro _; rfl)
    (hs : swapsWithSole [.Tuple [.Subscript x k p1, .Subscript y l p2] kt pt] e pos.line X.env = pure false := by rfl) (hw : swappedStores [.Tuple [.Subscript x k p1, .Subscript y l p2] kt pt] e X.env = pure none := by rfl) (h1 : (assignEach [.Tuple [.Subscript x k p1, .Subscript y l p2] kt pt] X.env).map (·.2) = [assign (.Tuple [.Subscript x k p1, .Subscript y l p2] kt pt) X.env] := by rfl)
    (h2 : (assignEach [.Subscript x k p1, .Subscript y l p2] X.env).map (·.2) = assign (.Subscript x k p1) X.env :: (assignEach [.Subscript y l p2] X.env).map (·.2) := by rfl)
    (h3 : (assignEach [.Subscript y l p2] X.env).map (·.2) = assign (.Subscript y l p2) X.env :: (assignEach [] X.env).map (·.2) := by rfl)
    (hn : (assignEach [.Subscript x k p1, .Subscript y l p2] X.env).length = 2 := by rfl) (hst : (assignEach [.Subscript x k p1, .Subscript y l p2] X.env).findIdx? (·.1) = none := by rfl) :
    DS X cl W (.Assign [.Tuple [.Subscript x k p1, .Subscript y l p2] kt pt] e pos) (fSwap i f g1 g2) := by
  refine ps_imp (ps_asg he (pg_tup hc (pgs_cons (pg_sub hx hk set_list ha) (pgs_cons (pg_sub hy hl set_list hb) pgs_nil h3) h2) hn hst) hs hw h1) fun D σ H ⟨G, s, S, h⟩ => ?_
  unfold fSwap at h
  split at h
  rotate_left
  · exact h.elim
  rename_i ho
  refine ⟨G, s, S, out_mono (fout_res h) fun r G1 s1 H1 st1 S1 k1 v rr => ?_⟩
  unfold kSwap1 at k1
  split at k1
  rotate_left
  · exact k1.elim
  rename_i d1 d2
  cases (show Rp X.K G1 v (.tuple [d1, d2]) from rr) with
  | tup hT hA =>
    cases hA with
    | cons r1 hA =>
      cases hA with
      | cons r2 hA =>
        cases hA
        rename_i y1 y2
        refine ⟨_, _, rfl, .of (S1.gh _ _ hT), rfl, _, _, rfl, ?_⟩
        obtain ⟨ds0, h0⟩ := isOwn_get ho
        obtain ⟨l0, xs0, el, _, _⟩ := own_at S h0
        refine ⟨.ref l0, el, G1, s1, S1, ?_⟩
        refine out_mono (fout_res (fout_shift st1 k1)) fun q G2 s2 H2 st2 S2 k3 u ru => ?_
        unfold kSwap2 at k3
        split at k3
        rotate_left
        · exact k3.elim
        rename_i n ds e1 e2
        split at k3
        rotate_left
        · exact k3.elim
        rename_i j ej
        obtain rfl := dq_int (look_q S2 ru e1)
        obtain ⟨l2, xs, el2, hl2, hd2⟩ := own_at S2 e2
        rw [el] at el2
        cases el2
        obtain ⟨st3, S3⟩ := own_write S2 e2 el (dps_set (dp_mono st2.ex _ _ r1) j hd2)
        refine ⟨l0, xs, n, j, rfl, rfl, hl2, by rw [dps_len hd2]; exact ej, ?_⟩
        refine ⟨_, _, rfl, .ref l0, el, G2, _, S3, ?_⟩
        refine out_mono (fout_res (fout_shift (st2.trans st3) k3)) fun q4 G4 s4 H4 st4 S4 k4 u4 ru4 => ?_
        unfold kSwap3 at k4
        split at k4
        rotate_left
        · exact k4.elim
        rename_i n4 ds4 e14 e24
        split at k4
        rotate_left
        · exact k4.elim
        rename_i j4 ej4
        obtain rfl := dq_int (look_q S4 ru4 e14)
        obtain ⟨l4, xs4, el4, hl4, hd4⟩ := own_at S4 e24
        rw [el] at el4
        cases el4
        obtain ⟨st5, S5⟩ := own_write S4 e24 el (dps_set (dp_mono ((st2.trans (st3.trans st4)).ex) _ _ r2) j4 hd4)
        refine ⟨l0, xs4, n4, j4, rfl, rfl, hl4, by rw [dps_len hd4]; exact ej4, rfl, ?_⟩
        exact k4 _ σ _ (st4.trans st5) S5
end
end DL

/-! DL56: while, where what is returned is new all through -/
noncomputable section
namespace DL
open PySem L2 PyProof.Rows
open Evl (Ex)
section
variable {X : Cx} {cl : String → Addr} {W : WX} {c : Expr} {pos : Pos} {p : DSt → Flow} {H0 : Hp}
end
end DL

/-! DL57: a slot whose lists, however deep, are one's own -/
noncomputable section
namespace DL
open PySem L2 PyProof.Rows
open Evl (Ex)
/-! ### data without lists -/
mutual
def lf : PyData → Bool
  | .list _ => false
  | .dict _ => false
  | .tuple ds => lfs ds
  | _ => true
def lfs : List PyData → Bool
  | [] => true
  | d :: ds => lf d && lfs ds
end
def cutG (N : Addr → Prop) (G : Hp) : Hp := fun a => @ite _ (N a ∧ ∃ xs, G a = some (.lst xs)) (Classical.propDecidable _) none (G a)
section
variable {K : PySem.W.Frag} {N N' : Addr → Prop} {G G' : Hp}
theorem cut_keep {a : Addr} {o : HO} (h : G a = some o) (n : ¬ N a) : cutG N G a = some o := by
  unfold cutG; rw [if_neg fun z => n z.1]; exact h
theorem cut_tup {a : Addr} {xs : List V} (h : G a = some (.tup xs)) : cutG N G a = some (.tup xs) := by
  unfold cutG; rw [if_neg fun ⟨_, ys, z⟩ => by rw [h] at z; cases z]; exact h
theorem cut_ex : Ex (cutG N G) G := fun a o h => by
  unfold cutG at h
  split at h
  · cases h
  · exact h
theorem cut_none {a : Addr} (h : G a = none) : cutG N G a = none := by
  unfold cutG
  split
  · rfl
  · exact h
theorem cut_lst {a : Addr} {xs : List V} (h : cutG N G a = some (.lst xs)) : ¬ N a := fun n => by
  have h2 := cut_ex a _ h
  unfold cutG at h
  rw [if_pos ⟨n, xs, h2⟩] at h
  cases h
theorem cut_mono (e : Ex G G') (n : ∀ a, N' a → N a) : Ex (cutG N G) (cutG N' G') := fun a o h => by
  have h2 := e a o (cut_ex a o h)
  by_cases q : ∃ xs, o = .lst xs
  · obtain ⟨xs, rfl⟩ := q
    exact cut_keep h2 fun z => cut_lst h (n a z)
  · unfold cutG
    rw [if_neg fun ⟨_, xs, z⟩ => q ⟨xs, by rw [h2] at z; exact Option.some.inj z⟩]
    exact h2
mutual
theorem rp_cut : ∀ (d : PyData) (v : V), Rp K G v d → lf d = true → Rp K (cutG N G) v d
  | .none, _, h, _ => by cases h; exact .non
  | .bool b, _, h, _ => by cases h; exact .bl b
  | .int i, _, h, _ => by cases h; exact .int i
  | .str x, _, h, _ => by cases h; exact .str x
  | .list ds, _, h, f => by cases f
  | .tuple ds, _, h, f => by
    cases h with
    | tup hs ha => exact .tup (cut_tup hs) (rps_cut ds _ ha f)
  | .dict _, _, h, _ => by cases h
theorem rps_cut : ∀ (ds : List PyData) (vs : List V), RpAll K G vs ds → lfs ds = true → RpAll K (cutG N G) vs ds
  | [], _, h, _ => by cases h; exact .nil
  | d :: ds, _, h, f => by
    rw [lfs, Bool.and_eq_true] at f
    cases h with
    | cons h1 h2 => exact .cons (rp_cut d _ h1 f.1) (rps_cut ds _ h2 f.2)
end
end
theorem cut_ho {N : Addr → Prop} {G : Hp} {a : Addr} {o : HO} (h : G a = some o) (n : ∀ xs, o ≠ .lst xs) : cutG N G a = some o := by
  unfold cutG
  rw [if_neg fun ⟨_, xs, z⟩ => n xs (by rw [h] at z; exact Option.some.inj z)]
  exact h
def tupG (G : Hp) : Hp := cutG (fun _ => True) G
def dropG (RG G : Hp) : Hp := fun x => match RG x with
  | some _ => none
  | none => G x
def LstR (RG : Hp) : Prop := ∀ x o, RG x = some o → ∃ xs, o = .lst xs
theorem drop_ex {RG G : Hp} : Ex (dropG RG G) G := fun x o h => by
  unfold dropG at h
  split at h
  · cases h
  · exact h
theorem drop_out {RG G : Hp} {x : Addr} (h : RG x = none) : dropG RG G x = G x := by unfold dropG; rw [h]
theorem drop_in {RG G : Hp} {x : Addr} {o : HO} (h : RG x = some o) : dropG RG G x = none := by unfold dropG; rw [h]
theorem drop_none {RG G : Hp} {x : Addr} (h : G x = none) : dropG RG G x = none := by
  unfold dropG; split
  · rfl
  · exact h
theorem cut_drop {RG G H : Hp} {N : Addr → Prop} (l : LstR RG) (e : Ex RG H) (g : Ex G H) (n : ∀ x o, RG x = some o → N x) : Ex (cutG N G) (dropG RG G) := fun x o h => by
  cases q : RG x with
  | none => rw [drop_out q]; exact cut_ex x o h
  | some o' =>
    obtain ⟨xs, rfl⟩ := l x o' q
    have h1 := e x _ q
    have h2 := g x o (cut_ex x o h)
    rw [h1] at h2
    cases h2
    exact absurd (n x _ q) (cut_lst h)
/-! ### slots behind a look -/
def okTs1 : Sl → Sl → Prop
  | .own es, y => lfs es = true ∧ ((∃ es', y = .own es' ∧ lfs es' = true) ∨ y = .val (.list es))
  | x, y => y = x
def okTs : List Sl → List Sl → Prop
  | [], [] => True
  | x :: r, y :: q => okTs1 x y ∧ okTs r q
  | _, _ => False
instance (x y : List Sl) : Decidable (okTs x y) := Classical.propDecidable _
theorem okTs_get : ∀ {l m : List Sl} {i : Nat} {y : Sl}, okTs l m → m[i]? = some y → ∃ x, l[i]? = some x ∧ okTs1 x y
  | [], [], i, y, _, e => by simp at e
  | [], _ :: _, i, y, h, e => h.elim
  | _ :: _, [], i, y, h, e => h.elim
  | x :: r, z :: q, 0, y, h, e => by simp at e; subst e; exact ⟨x, rfl, h.1⟩
  | x :: r, z :: q, i + 1, y, h, e => by
    obtain ⟨w, e1, h1⟩ := okTs_get (l := r) (m := q) (i := i) h.2 (by simpa using e)
    exact ⟨w, by simpa using e1, h1⟩
def okJs (js : List Nat) (l m : List Sl) : Prop := ∀ (i : Nat) (y : Sl), m[i]? = some y → (i ∉ js → ∃ x, l[i]? = some x ∧ okTs1 x y) ∧ (i ∈ js → y = .no ∨ ∃ d, y = .val d ∧ lf d = true)
theorem okJs_of {l m : List Sl} (h : okTs l m) : okJs [] l m := fun i y e => ⟨fun _ => okTs_get h e, fun z => by simp at z⟩
structure UA (K : PySem.W.Frag) (j : Nat) (Gb : Hp) (sb : DSt) (σb : L2.St) (Hb G : Hp) (s : DSt) (σ : L2.St) (H : Hp) (v : V) (d : PyData) (RG : Hp) : Prop where
  sa : SA K G (putS j .no s) σ H
  stp : Stp Gb sb σb Hb G (putS j .no s) σ H
  jl : j < s.d.length
  sj : s.d[j]? = some (.val d)
  ej : σ[j]? = some (some v)
  rp : Rp K (mergeG RG (tupG G)) v d
  ls : LstR RG
  rg : ∀ x o, RG x = some o → H x = some o ∧ G x = none ∧ ¬ Own (putS j .no s) σ x ∧ Hb x = none
section
variable {K : PySem.W.Frag} {j : Nat} {Gb Hb G H G' H' RG : Hp} {sb s s' : DSt} {σb σ σ' : L2.St} {v : V} {d : PyData}
theorem UA.noj (N : UA K j Gb sb σb Hb G s σ H v d RG) : ∀ ds, s.d[j]? ≠ some (.own ds) := fun es e => by rw [N.sj] at e; cases e
theorem UA.exv (N : UA K j Gb sb σb Hb G s σ H v d RG) : Ex G (mergeG RG G) := fun x o e => by
  unfold mergeG
  cases q : RG x with
  | none => exact e
  | some o' => rw [(N.rg x o' q).2.1] at e; cases e
theorem mergeG_mono {RG G G' : Hp} (e : Ex G G') : Ex (mergeG RG G) (mergeG RG G') := fun x o h => by
  unfold mergeG at h ⊢
  cases q : RG x with
  | some o' => rw [q] at h; exact h
  | none => rw [q] at h; exact e x o h
theorem UA.view (N : UA K j Gb sb σb Hb G s σ H v d RG) : SA K (mergeG RG G) s σ H := by
  have S := N.sa
  have hx := N.exv
  have out : ∀ x, Own (putS j .no s) σ x → RG x = none := fun x z => by
    cases q : RG x with
    | none => rfl
    | some o => exact absurd z (N.rg x o q).2.2.1
  refine ⟨by have := S.len; simpa [putS] using this, fun x o e => ?_, fun i sl h => ?_, fun i k x h1 h2 => S.inj i k x ((ownAt_no N.noj).mpr h1) ((ownAt_no N.noj).mpr h2), fun i x h => ?_, ?_, fun i x h => S.pne i x ((ownAt_no N.noj).mpr h)⟩
  · unfold mergeG at e
    cases q : RG x with
    | none => rw [q] at e; exact S.gh x o e
    | some o' => rw [q] at e; cases e; exact (N.rg x _ q).1
  · by_cases q : i = j
    · subst q
      rw [N.sj] at h
      cases h
      exact ⟨v, by rw [N.ej] <;> rfl, dp_mono (mergeG_mono cut_ex) _ _ N.rp⟩
    · have h' : (putS j .no s).d[i]? = some sl := by simp only [putS, List.getElem?_set_ne (Ne.symm q)]; exact h
      have q := S.slot i sl h'
      cases sl with
      | no => trivial
      | val d => obtain ⟨v, e, hd⟩ := q; exact ⟨v, e, dp_mono hx _ _ hd⟩
      | raw v => exact q
      | ob o => obtain ⟨v, e, hd⟩ := q; exact ⟨v, e, ob_mono hx hd⟩
      | own es => obtain ⟨b, ys, e, hb, hh⟩ := q; exact ⟨b, ys, e, hb, dps_mono hx _ _ hh⟩
  · have h := (ownAt_no N.noj).mpr h
    rw [merge_none (out x (.inl ⟨i, h⟩))]
    exact S.ownG i x h
  · have q : PwOk G s.w H := S.pw
    have n : ∀ x, POwn s.w x → RG x = none := fun x h => out x (.inr h)
    exact pwok_to q (fun _ _ h _ => h) (fun _ _ h => h) fun x h => by rw [merge_none (n x h)]; exact G_pown q h
theorem UA.stpv (N : UA K j Gb sb σb Hb G s σ H v d RG) : Stp Gb sb σb Hb (mergeG RG G) s σ H := by
  refine ⟨N.stp.ex.trans N.exv, fun x o h1 h2 => ?_, fun x z => N.stp.own x ((own_noj N.noj).mpr z), N.stp.dom, N.stp.pw⟩
  obtain ⟨h3, h4⟩ := N.stp.keep x o h1 h2
  refine ⟨h3, ?_⟩
  rw [merge_none]
  · exact h4
  · cases q : RG x with
    | none => rfl
    | some o' => rw [(N.rg x o' q).2.2.2] at h1; cases h1
theorem UA.thaw (N : UA K j Gb sb σb Hb G s σ H v d RG) {js : List Nat} (hj : j ∉ js) (st : Stp (mergeG RG G) s σ H G' s' σ' H') (S' : SA K G' s' σ' H') (hσ : ∀ i, i ∉ js → σ'[i]? = σ[i]?) (e : okJs js s.d s'.d) : UA K j Gb sb σb Hb (dropG RG G') s' σ' H' v d RG := by
  have exT : Ex G (dropG RG G') := fun x o e => by
    have hn : RG x = none := by
      cases q : RG x with
      | none => rfl
      | some o' => rw [(N.rg x o' q).2.1] at e; cases e
    rw [drop_out hn]
    exact st.ex x o (N.exv x o e)
  have ej' : σ'[j]? = some (some v) := (hσ j hj).trans N.ej
  have jl' : j < s'.d.length := by rw [S'.len]; exact (List.getElem?_eq_some_iff.mp ej').1
  have sj' : s'.d[j]? = some (.val d) := by
    obtain ⟨x, ex, op⟩ := (e j _ (List.getElem?_eq_getElem jl')).1 hj
    rw [N.sj] at ex
    cases ex
    rw [List.getElem?_eq_getElem jl']
    exact congrArg some op
  have noj : ∀ ds, s'.d[j]? ≠ some (.own ds) := fun ds z => by rw [sj'] at z; cases z
  have keepN : ∀ x o, RG x = some o → H' x = some o := fun x o z => (st.keep x o (N.rg x o z).1 fun w => (N.rg x o z).2.2.1 ((own_noj N.noj).mpr w)).1
  have nown : ∀ x o, RG x = some o → ¬ Own s' σ' x := fun x o z w => by
    rcases st.own x w with q | q
    · exact (N.rg x o z).2.2.1 ((own_noj N.noj).mpr q)
    · rw [(N.rg x o z).1] at q; cases q
  have rdrop : ∀ {es : List PyData} {xs : List V}, RpAll K G' xs es → lfs es = true → RpAll K (dropG RG G') xs es := fun {es xs} h f =>
    dps_mono (cut_drop N.ls keepN S'.gh (N := fun x => RG x ≠ none) fun x o q z => by rw [q] at z; cases z) _ _ (rps_cut _ _ h f)
  have rdrop1 : ∀ {e : PyData} {x : V}, Rp K G' x e → lf e = true → Rp K (dropG RG G') x e := fun {e x} h f =>
    dp_mono (cut_drop N.ls keepN S'.gh (N := fun x => RG x ≠ none) fun x o q z => by rw [q] at z; cases z) _ _ (rp_cut _ _ h f)
  refine ⟨⟨by have := S'.len; simpa [putS] using this, fun x o e => S'.gh x o (drop_ex x o e), fun i sl h => ?_, fun i k x h1 h2 => S'.inj i k x ((ownAt_no noj).mp h1) ((ownAt_no noj).mp h2), fun i x h => drop_none (S'.ownG i x ((ownAt_no noj).mp h)), ?_, fun i x h => S'.pne i x ((ownAt_no noj).mp h)⟩, ⟨N.stp.ex.trans exT, fun x o h1 h2 => ?_, fun x z => ?_, fun x h => st.dom x (N.stp.dom x h), fun x h => st.pw x (N.stp.pw x h)⟩, jl', sj', ej', dp_mono (mergeG_mono (cut_mono exT fun _ z => z)) _ _ N.rp, N.ls, fun x o z => ⟨keepN x o z, drop_in z, fun w => nown x o z ((own_noj noj).mp w), (N.rg x o z).2.2.2⟩⟩
  · by_cases q : i = j
    · subst q
      simp only [putS] at h
      rw [List.getElem?_set_self jl'] at h
      cases h
      trivial
    · simp only [putS, List.getElem?_set_ne (Ne.symm q)] at h
      have z' := S'.slot i sl h
      by_cases qj : i ∈ js
      · rcases (e i sl h).2 qj with rfl | ⟨d', rfl, f⟩
        · trivial
        · obtain ⟨u, eu, hu⟩ := z'
          exact ⟨u, eu, rdrop1 hu f⟩
      · obtain ⟨x, ex, op⟩ := (e i sl h).1 qj
        have z := N.sa.slot i x (by simp only [putS, List.getElem?_set_ne (Ne.symm q)]; exact ex)
        rw [← hσ i qj] at z
        cases x with
        | no => cases op; trivial
        | raw u => cases op; exact z
        | val d' => cases op; obtain ⟨u, eu, hu⟩ := z; exact ⟨u, eu, dp_mono exT _ _ hu⟩
        | ob o => cases op; obtain ⟨u, eu, hu⟩ := z; exact ⟨u, eu, ob_mono exT hu⟩
        | own es =>
          obtain ⟨f, ⟨es', rfl, f'⟩ | rfl⟩ := op
          · obtain ⟨b, ys, eb, hb, hh⟩ := z'
            exact ⟨b, ys, eb, hb, rdrop hh f'⟩
          · obtain ⟨u, eu, hu⟩ := z'
            refine ⟨u, eu, ?_⟩
            obtain ⟨b, ys, eb, hb, hh⟩ := z
            rw [eu] at eb
            cases eb
            cases hu with
            | lst h1 h2 =>
              have eb2 : σ[i]? = some (some (.ref b)) := by
                rw [← hσ i qj]
                cases w : σ'[i]? with
                | none => rw [w] at eu; cases eu
                | some o => rw [w] at eu; simp at eu; rw [eu]
              have nb : RG b = none := by
                cases w : RG b with
                | none => rfl
                | some o' => exact absurd (.inl ⟨i, ⟨⟨es, ex⟩, eb2⟩⟩) fun z => (N.rg b o' w).2.2.1 ((own_noj N.noj).mpr z)
              exact .lst (by rw [drop_out nb]; exact h1) (rdrop h2 f)
  · have q : PwOk G' s'.w H' := S'.pw
    show PwOk _ s'.w H'
    exact pwok_to q (fun _ _ h _ => h) (fun _ _ h => h) fun x h => drop_none (G_pown q h)
  · obtain ⟨h3, h4⟩ := N.stp.keep x o h1 h2
    have hn : RG x = none := by
      cases q : RG x with
      | none => rfl
      | some o' => rw [(N.rg x o' q).2.2.2] at h1; cases h1
    have no : ¬ Own s σ x := fun z => by
      rcases N.stp.own x ((own_noj N.noj).mpr z) with q | q
      · exact h2 q
      · rw [q] at h1; cases h1
    obtain ⟨h5, h6⟩ := st.keep x o h3 no
    exact ⟨h5, by rw [drop_out hn, h6, merge_none hn]; exact h4⟩
  · rcases st.own x ((own_noj noj).mp z) with q | q
    · exact N.stp.own x ((own_noj N.noj).mpr q)
    · exact .inr (Classical.byContradiction fun w => N.stp.dom x w q)
theorem UA.put (N : UA K j Gb sb σb Hb G s σ H v d RG) {i : Nat} {x : Sl} {u : V} (ij : i ≠ j) (hi : i < s.d.length) (hx : SlOk K G H (some u) x) (hx2 : ∀ es b, x = .own es → u = .ref b → G b = none ∧ ¬ Own (putS j .no s) σ b ∧ Hb b = none ∧ RG b = none) : UA K j Gb sb σb Hb G (putS i x s) (σ.set i (some u)) H v d RG := by
  have pp : putS j .no (putS i x s) = putS i x (putS j .no s) := by simp only [putS]; rw [List.set_comm _ _ ij]
  have hi' : i < (putS j .no s).d.length := by simpa [putS] using hi
  have S := put_ok (x := x) (v := u) N.sa hi' hx (fun es b z w => ⟨(hx2 es b z w).1, fun q => (hx2 es b z w).2.1 (.inr q), fun k _ q => (hx2 es b z w).2.1 (.inl ⟨k, q⟩)⟩)
  have T := put_stp (x := x) (v := u) N.sa N.stp hi' (fun es b z w => .inl (hx2 es b z w).2.2.1)
  have hj : (putS i x s).d[j]? = s.d[j]? := by simp only [putS]; exact List.getElem?_set_ne ij
  refine ⟨by rw [pp]; exact S, by rw [pp]; exact T, by simpa [putS] using N.jl, by rw [hj]; exact N.sj, by rw [List.getElem?_set_ne ij]; exact N.ej, N.rp, N.ls, fun y o z => ⟨(N.rg y o z).1, (N.rg y o z).2.1, fun w => ?_, (N.rg y o z).2.2.2⟩⟩
  rw [pp] at w
  rcases w with ⟨k, w⟩ | w
  · rcases own_put hi' N.sa.len w with ⟨_, ⟨es, e⟩, e2⟩ | ⟨_, w⟩
    · rw [(hx2 es y e e2).2.2.2] at z; cases z
    · exact (N.rg y o z).2.2.1 (.inl ⟨k, w⟩)
  · exact (N.rg y o z).2.2.1 (.inr w)
theorem UA.know (N : UA K j Gb sb σb Hb G s σ H v d RG) {a : Addr} {xs : List V} {ds : List PyData} (ha : H a = some (.lst xs)) (hd : RpAll K G xs ds) (hg : G a = none) (hn : ¬ Own (putS j .no s) σ a) (hb : Hb a = none) (hr : RG a = none) : UA K j Gb sb σb Hb (upd G a (.lst xs)) s σ H v d RG := by
  obtain ⟨ug, S, rp⟩ := DL.know N.sa ha hd hg hn
  refine ⟨S, ⟨N.stp.ex.trans ug, fun x o h1 h2 => ?_, N.stp.own, N.stp.dom, N.stp.pw⟩, N.jl, N.sj, N.ej, dp_mono (mergeG_mono (cut_mono ug fun _ z => z)) _ _ N.rp, N.ls, fun x o z => ⟨(N.rg x o z).1, ?_, (N.rg x o z).2.2⟩⟩
  · obtain ⟨h3, h4⟩ := N.stp.keep x o h1 h2
    exact ⟨h3, by rw [upd_ne fun z => by subst z; rw [hb] at h1; cases h1]; exact h4⟩
  · rw [upd_ne fun q => by subst q; rw [hr] at z; cases z]; exact (N.rg x o z).2.1
structure FrG (RG H H2 : Hp) : Prop where
  keep : ∀ x o, H x = some o → RG x = none → H2 x = some o
  dom : ∀ x, H x ≠ none → H2 x ≠ none
theorem FrG.refl : FrG RG H H := ⟨fun _ _ h _ => h, fun _ h => h⟩
theorem FrG.trans {H1 H2 H3 : Hp} (a : FrG RG H1 H2) (b : FrG RG H2 H3) : FrG RG H1 H3 := ⟨fun x o h n => b.keep x o (a.keep x o h n) n, fun x h => b.dom x (a.dom x h)⟩
theorem sa_frame {H2 : Hp} (S : SA K G s σ H) (h : ∀ x o, H x = some o → (G x ≠ none ∨ Own s σ x) → H2 x = some o) (hx : ∀ x φ, H x = some (.ext φ) → H2 x = some (.ext φ)) : SA K G s σ H2 := by
  refine ⟨S.len, fun x o e => h x o (S.gh x o e) (.inl (by rw [e]; simp)), fun i sl e => ?_, S.inj, S.ownG, ?_, S.pne⟩
  · have q := S.slot i sl e
    cases sl with
    | no => trivial
    | val d => exact q
    | raw v => exact q
    | ob o => exact q
    | own es =>
      obtain ⟨a, xs, e1, ha, hh⟩ := q
      refine ⟨a, xs, e1, h a _ ha (.inr (.inl ⟨i, ⟨es, e⟩, ?_⟩)), hh⟩
      cases w : σ[i]? with
      | none => rw [w] at e1; cases e1
      | some o => rw [w] at e1; simp at e1; rw [e1]
  · exact pwok_to S.pw (fun a o e z => h a o e (.inr (.inr z))) hx fun x z => G_pown S.pw z
theorem UA.drop (N : UA K j Gb sb σb Hb G s σ H v d RG) {H2 : Hp} (f : FrG RG H H2) : Stp Gb sb σb Hb G (putS j .no s) σ H2 ∧ SA K G (putS j .no s) σ H2 := by
  refine ⟨⟨N.stp.ex, fun x o h1 h2 => ?_, N.stp.own, fun x h => f.dom x (N.stp.dom x h), N.stp.pw⟩, sa_frame N.sa (fun x o e h => f.keep x o e ?_) fun x φ e => f.keep x _ e ?_⟩
  · obtain ⟨h3, h4⟩ := N.stp.keep x o h1 h2
    refine ⟨f.keep x o h3 ?_, h4⟩
    cases q : RG x with
    | none => rfl
    | some o' => rw [(N.rg x o' q).2.2.2] at h1; cases h1
  · cases q : RG x with
    | none => rfl
    | some o' =>
      rcases h with h | h
      · exact absurd (N.rg x o' q).2.1 h
      · exact absurd h (N.rg x o' q).2.2.1
  · cases q : RG x with
    | none => rfl
    | some o' =>
      obtain ⟨xs, hl⟩ := N.ls x o' q
      have := (N.rg x o' q).1
      rw [e, hl] at this
      cases this
end
end DL

/-! DL58: statements while a slot's lists are one's own -/
noncomputable section
namespace DL
open PySem L2 PyProof.Rows
open Evl (Ex)
def UOut (K : PySem.W.Frag) (cl : String → Addr) (W : WX) (j : Nat) (Gb : Hp) (sb : DSt) (σb : L2.St) (Hb G0 : Hp) (v : V) (d : PyData) (RG : Hp) (fl : Flow) (D : Ends) : Prop := match fl with
  | .next s' => ∀ G' σ' H', UA K j Gb sb σb Hb G' s' σ' H' v d RG → Ex G0 G' → D.nx σ' H'
  | .brk s' => ∀ G' σ' H', UA K j Gb sb σb Hb G' s' σ' H' v d RG → Ex G0 G' → D.bk σ' H'
  | .cnt s' => ∀ G' σ' H', UA K j Gb sb σb Hb G' s' σ' H' v d RG → Ex G0 G' → D.ct σ' H'
  | .ret r s' => ∀ u G' σ' H', Stp Gb sb σb Hb G' s' σ' H' → SA K G' s' σ' H' → RRel K Hb G' s' σ' H' u r → D.rt u H'
  | .err x s' => ∀ cls e G' σ' H', Stp Gb sb σb Hb G' s' σ' H' → SA K G' s' σ' H' → XRel K cl x cls e G' → W cls e σ' H'
  | .stuck => False
def tU (K : PySem.W.Frag) (cl : String → Addr) (W : WX) (j : Nat) (f : DSt → Flow) : TS := fun D σ H => ∃ Gb sb σb Hb G s v d RG, UA K j Gb sb σb Hb G s σ H v d RG ∧ UOut K cl W j Gb sb σb Hb G v d RG (f s) D
def tUF (K : PySem.W.Frag) (cl : String → Addr) (W : WX) (j : Nat) (f : DSt → Flow) : TS := fun D σ H => ∃ Gb sb σb Hb G s v d RG, UA K j Gb sb σb Hb G s σ H v d RG ∧ FOut K cl W Gb sb σb Hb (f s) D
section
variable {K : PySem.W.Frag} {cl : String → Addr} {W : WX} {j : Nat} {Gb Hb G G0 H G' H' RG : Hp} {sb s s' : DSt} {σb σ σ' : L2.St} {v : V} {d : PyData} {D : Ends}
def noGo : Flow → Flow
  | .ret r s => .ret r s
  | .err x s => .err x s
  | _ => .stuck
theorem uout_plain {fl : Flow} (st : Stp Gb sb σb Hb G s σ H) (h : UOut K cl W j Gb sb σb Hb G0 v d RG (noGo fl) D) : FOut K cl W G s σ H fl D := by
  cases fl with
  | next s2 => exact h.elim
  | brk s2 => exact h.elim
  | cnt s2 => exact h.elim
  | stuck => exact h.elim
  | ret r s2 => exact fun u G2 σ2 H2 st2 S2 rr => h u G2 σ2 H2 (st.trans st2) S2 (rr.less st.dom)
  | err x s2 => exact fun c e G2 σ2 H2 st2 S2 xr => h c e G2 σ2 H2 (st.trans st2) S2 xr
theorem fout_from {fl : Flow} (st : Stp Gb sb σb Hb G s σ H) (h : FOut K cl W Gb sb σb Hb fl D) : FOut K cl W G s σ H fl D := by
  cases fl with
  | next s2 => exact fun G2 σ2 H2 st2 S2 => h G2 σ2 H2 (st.trans st2) S2
  | brk s2 => exact fun G2 σ2 H2 st2 S2 => h G2 σ2 H2 (st.trans st2) S2
  | cnt s2 => exact fun G2 σ2 H2 st2 S2 => h G2 σ2 H2 (st.trans st2) S2
  | stuck => exact h
  | ret r s2 => exact fun u G2 σ2 H2 st2 S2 rr => h u G2 σ2 H2 (st.trans st2) S2 (rr.less st.dom)
  | err x s2 => exact fun c e G2 σ2 H2 st2 S2 xr => h c e G2 σ2 H2 (st.trans st2) S2 xr
theorem UA.exd (N : UA K j Gb sb σb Hb G s σ H v d RG) (e : Ex (mergeG RG G) G') : Ex G (dropG RG G') := fun x o h => by
  have hn : RG x = none := by
    cases q : RG x with
    | none => rfl
    | some o' => rw [(N.rg x o' q).2.1] at h; cases h
  rw [drop_out hn]
  exact e x o (N.exv x o h)
end
def fseqU (f g : DSt → Flow) : DSt → Flow := fun s => match f s with
  | .next s' => g s'
  | .ret r s' => .ret r s'
  | .err x s' => .err x s'
  | _ => .stuck
def noS (js : List Nat) (s : DSt) : DSt := { s with d := blank js s.d }
def fUEnd (js : List Nat) (q : DSt → Flow) : DSt → Flow := fun s => q (noS js s)
def tM (K : PySem.W.Frag) (j : Nat) (js : List Nat) (t : PyData → DSt → Prop) : TS := fun D σ H => ∃ Gb sb σb Hb G s v d RG, UA K j Gb sb σb Hb G s σ H v d RG ∧ t d s ∧ ∀ σ2 H2, FrG RG H H2 → σ2.length = σ.length → (∀ i, i ∉ js → σ2[i]? = σ[i]?) → D.nx σ2 H2
theorem sa_noS {K : PySem.W.Frag} {G H : Hp} {s : DSt} {σ σ2 : L2.St} {js : List Nat} (S : SA K G s σ H) (l : σ2.length = σ.length) (h : ∀ i, i ∉ js → σ2[i]? = σ[i]?) : SA K G (noS js s) σ2 H ∧ ∀ x, Own (noS js s) σ2 x → Own s σ x := by
  have ho : ∀ k x, OwnAt (noS js s) σ2 k x → OwnAt s σ k x := by
    rintro k x ⟨⟨es, e⟩, e2⟩
    simp only [noS, blank_get] at e
    by_cases q : k ∈ js
    · rw [if_pos q] at e; split at e <;> cases e
    · rw [if_neg q] at e
      exact ⟨⟨es, e⟩, by rw [← h k q]; exact e2⟩
  refine ⟨⟨by simp [noS, blank_len, S.len, l], S.gh, fun k sl e => ?_, fun k m x h1 h2 => S.inj k m x (ho k x h1) (ho m x h2), fun k x h => S.ownG k x (ho k x h), S.pw, fun k x h => S.pne k x (ho k x h)⟩, fun x z => z.imp (fun ⟨k, z⟩ => ⟨k, ho k x z⟩) id⟩
  simp only [noS, blank_get] at e
  by_cases q : k ∈ js
  · rw [if_pos q] at e
    split at e
    · cases e; trivial
    · cases e
  · rw [if_neg q] at e
    rw [h k q]
    exact S.slot k sl e
theorem putS_noS {j : Nat} {js : List Nat} {s : DSt} (h : j ∈ js) : noS js (putS j .no s) = noS js s := by
  unfold noS putS
  congr 1
  apply List.ext_getElem?
  intro i
  rw [blank_get, blank_get]
  by_cases q : i ∈ js
  · rw [if_pos q, if_pos q]; simp
  · rw [if_neg q, if_neg q, List.getElem?_set_ne fun z => q (by rw [← z]; exact h)]
section
variable {X : Cx} {cl : String → Addr} {W : WX} {e a b c tg iter elt : Expr} {es : List Expr} {f g : M R} {fs : M (List R)} {fi : M (List PyData)} {pos : Pos} {st : Stmt} {rest body as bs : List Stmt} {p q : DSt → Flow} {j : Nat}
theorem uf_cons (h1 : PS X st (tU X.K cl W j p)) (h2 : PSs X rest (tUF X.K cl W j q)) : PSs X (st :: rest) (tUF X.K cl W j (fseqU p q)) := by
  refine pss_imp (pss_cons h1 h2) fun D σ H ⟨Gb, sb, σb, Hb, G, s, v, d, RG, N, h⟩ => ⟨Gb, sb, σb, Hb, G, s, v, d, RG, N, ?_⟩
  unfold fseqU at h
  cases z : p s with
  | next s' => rw [z] at h; exact fun G' σ' H' N' x => ⟨Gb, sb, σb, Hb, G', s', v, d, RG, N', h⟩
  | brk s' => rw [z] at h; exact h.elim
  | cnt s' => rw [z] at h; exact h.elim
  | ret r s' => rw [z] at h; exact h
  | err x s' => rw [z] at h; exact h
  | stuck => rw [z] at h; exact h
def fUMut (t : PyData → DSt → Prop) (j : Nat) (js : List Nat) (q : DSt → Flow) : DSt → Flow := fun s => match s.d[j]? with
  | some (.val d) => @ite _ (t d s) (Classical.propDecidable _) (q (noS js s)) .stuck
  | _ => .stuck
theorem uf_mutd {js : List Nat} {t : PyData → DSt → Prop} (hj : j ∈ js) (h1 : PS X st (tM X.K j js t)) (h : DSs X cl W rest q) : PSs X (st :: rest) (tUF X.K cl W j (fUMut t j js q)) := by
  refine pss_imp (pss_cons h1 h) fun D σ H ⟨Gb, sb, σb, Hb, G, s, v, d, RG, N, h⟩ => ?_
  unfold fUMut at h
  rw [N.sj] at h
  dsimp only at h
  split at h
  rotate_left
  · exact h.elim
  rename_i td
  refine ⟨Gb, sb, σb, Hb, G, s, v, d, RG, N, td, fun σ2 H2 fr l a => ?_⟩
  obtain ⟨st, S⟩ := N.drop fr
  obtain ⟨S2, o2⟩ := sa_noS (js := js) S l a
  rw [putS_noS hj] at S2 o2
  have st2 : Stp Gb sb σb Hb G (noS js s) σ2 H2 := ⟨st.ex, st.keep, fun x z => st.own x (o2 x z), st.dom, st.pw⟩
  exact ⟨G, noS js s, S2, fout_from st2 h⟩
def onU {α : Type} (s : DSt) (r : Res α) (g : α → DSt → Flow) : Flow := match r with
  | .ok a s1 => if okTs s.d s1.d then g a s1 else .stuck
  | .err x s1 => .err x s1
  | .stuck => .stuck
def uIf (t : M Bool) (p : DSt → Flow) : DSt → Flow := fun s => match t s with
  | .ok true s1 => noGo (p s1)
  | .ok false s1 => if okTs s.d s1.d then .next s1 else .stuck
  | .err x s1 => .err x s1
  | .stuck => .stuck
theorem u_if {t : M Bool} (hc : DT X cl W c t) (ha : DSs X cl W as p) : PS X (.If c as [] pos) (tU X.K cl W j (uIf t p)) := by
  refine ps_imp (ps_if hc ha pss_nil) fun D σ H ⟨Gb, sb, σb, Hb, G, s, v, d, RG, N, h⟩ => ?_
  refine ⟨_, s, N.view, ?_⟩
  unfold uIf at h
  cases z : t s with
  | err x s1 => rw [z] at h; exact fun c e G1 H1 st1 S1 xr => h c e G1 σ H1 (N.stpv.trans st1) S1 xr
  | stuck => rw [z] at h; exact h.elim
  | ok b s1 =>
    rw [z] at h
    intro G1 H1 st1 S1
    cases b with
    | true => exact ⟨G1, s1, S1, uout_plain (N.stpv.trans st1) h⟩
    | false =>
      dsimp only at h
      split at h
      · rename_i ok
        exact h _ σ H1 (N.thaw (js := []) (by simp) st1 S1 (fun _ _ => rfl) (okJs_of ok)) (N.exd st1.ex)
      · exact h.elim
def uIfU (t : M Bool) (p q : DSt → Flow) : DSt → Flow := fun s => onU s (t s) fun b s1 => if b then p s1 else q s1
def uExp (f : M R) : DSt → Flow := fun s => onU s (f s) fun _ s1 => .next s1
def uRet (f : M R) : DSt → Flow := fun s => noGo (fRet f s)
def lfk {κ : Type} : List (κ × PyData) → Bool
  | [] => true
  | p :: r => lf p.2 && lfk r
def kUSet (k : Nat) (r : R) (s1 : DSt) : Flow := if k < s1.d.length then (match r with
  | .val d => if lf d = true then .next (putS k (.val d) s1) else .stuck
  | .new ds => if lfs ds = true then .next (putS k (.own ds) s1) else .stuck
  | .ob (.dictT kvs) => if lfk kvs = true then .next (putS k (.ob (.dictT kvs)) s1) else .stuck
  | .ob (.dict kvs) => if lfk kvs = true then .next (putS k (.ob (.dict kvs)) s1) else .stuck
  | _ => .stuck) else .stuck
def uSet (k : Nat) (f : M R) : DSt → Flow := fun s => onU s (f s) (kUSet k)
def jsLf : List Nat → List Sl → Prop
  | [], _ => True
  | i :: r, d => (match d[i]? with
    | some (.val x) => lf x = true
    | some .no => True
    | _ => False) ∧ jsLf r d
instance (js : List Nat) (d : List Sl) : Decidable (jsLf js d) := Classical.propDecidable _
def loopU (js : List Nat) (bd : Bd) (p : DSt → Flow) : List PyData → DSt → Flow
  | [], s => .next s
  | d :: r, s => match bd d s with
    | none => .stuck
    | some s4 => if okTs s.d s.d ∧ jsLf js s4.d then (match p s4 with
      | .next s5 => loopU js bd p r s5
      | .cnt s5 => loopU js bd p r s5
      | .brk s5 => .next s5
      | .ret q s5 => .ret q s5
      | .err x s5 => .err x s5
      | .stuck => .stuck) else .stuck
def uFor (js : List Nat) (fi : M (List PyData)) (bd : Bd) (p : DSt → Flow) : DSt → Flow := fun s => onU s (fi s) (loopU js bd p)
end
end DL

/-! DL59: what is told is new all through, and the block that begins so -/
noncomputable section
namespace DL
open PySem L2 PyProof.Rows
open Evl (Ex)
def nwG (H G : Hp) : Hp := cutG (fun a => H a ≠ none) G
def NewR (K : PySem.W.Frag) (H G' H' : Hp) (v : V) : R → Prop
  | .val d => Rp K (nwG H G') v d
  | .new ds => ∃ a xs, v = .ref a ∧ H' a = some (.lst xs) ∧ RpAll K (nwG H G') xs ds
  | _ => False
theorem nw_less {H0 H G : Hp} (d : Dom H0 H) : Ex (nwG H G) (nwG H0 G) := cut_mono (Ex.refl G) fun a n => d a n
theorem NewR.less {K : PySem.W.Frag} {H0 H G' H' : Hp} {v : V} {r : R} (d : Dom H0 H) (h : NewR K H G' H' v r) : NewR K H0 G' H' v r := by
  cases r with
  | val e => exact dp_mono (nw_less d) _ _ h
  | new ds =>
    obtain ⟨a, xs, e, ha, hd⟩ := h
    exact ⟨a, xs, e, ha, dps_mono (nw_less d) _ _ hd⟩
  | raw u => exact h
  | ob o => exact h
  | slot i => exact h
def tDn (K : PySem.W.Frag) (cl : String → Addr) (W : WX) (f : M R) : TE := fun σ H Q => ∃ G s, SA K G s σ H ∧ Out K cl W G s σ H (f s) fun r G' s' H' => ∀ v, RRel K H G' s' σ H' v r → NewR K H G' H' v r → Q v H'
def frG (H G : Hp) : Hp := fun x => match H x, G x with
  | none, some (.lst xs) => some (.lst xs)
  | _, _ => none
section
variable {K : PySem.W.Frag} {H G : Hp}
theorem frG_some {x : Addr} {o : HO} (h : frG H G x = some o) : H x = none ∧ G x = some o ∧ ∃ xs, o = .lst xs := by
  unfold frG at h
  split at h
  · rename_i xs e1 e2
    cases h
    exact ⟨e1, e2, xs, rfl⟩
  · cases h
theorem frG_none {x : Addr} (h : H x ≠ none) : frG H G x = none := by
  cases q : frG H G x with
  | none => rfl
  | some o => exact absurd (frG_some q).1 h
theorem fr_ls : LstR (frG H G) := fun x o h => (frG_some h).2.2
theorem fr_in {x : Addr} {xs : List V} (h : H x = none) (e : G x = some (.lst xs)) : frG H G x = some (.lst xs) := by unfold frG; rw [h, e]
theorem nw_merge : Ex (nwG H G) (mergeG (frG H G) (tupG (dropG (frG H G) G))) := fun x o h => by
  have h2 := cut_ex x o h
  unfold mergeG
  cases q : frG H G x with
  | some o' =>
    have := (frG_some q).2.1
    rw [h2] at this
    cases this
    rfl
  | none =>
    dsimp only
    refine cut_ho (by rw [drop_out q]; exact h2) fun xs e => ?_
    subst e
    rw [fr_in (Classical.byContradiction fun z => cut_lst h z) h2] at q
    cases q
end
def kUB (j : Nat) (g : DSt → Flow) (s0 : DSt) : Res R → Flow
  | .ok (.val d) s1 => if okTs (putS j .no s0).d (putS j .no s1).d ∧ j < s1.d.length then g (putS j (.val d) s1) else .stuck
  | .ok (.new ds) s1 => if okTs (putS j .no s0).d (putS j .no s1).d ∧ j < s1.d.length then g (putS j (.val (.list ds)) s1) else .stuck
  | .err x s1 => .err x s1
  | _ => .stuck
def fUB (j : Nat) (js : List Nat) (f : M R) (g : DSt → Flow) : DSt → Flow := fun s => kUB j g (frzS js s) (f (frzS js s))
section
variable {K : PySem.W.Frag} {G H : Hp} {s : DSt} {σ : L2.St}
theorem ua_start {j : Nat} {G0 G1 H1 : Hp} {s0 s1 : DSt} {v : V} {d : PyData} (st0 : Stp G s σ H G0 s0 σ H) (S0 : SA K G0 s0 σ H) (st1 : Stp G0 s0 σ H G1 s1 σ H1) (S1 : SA K G1 s1 σ H1)
    (jl : j < s1.d.length) (ok : okTs (putS j .no s0).d (putS j .no s1).d) (hr : Rp K (nwG H G1) v d) : UA K j G s σ H (dropG (frG H G1) G1) (putS j (.val d) s1) (σ.set j (some v)) H1 v d (frG H G1) := by
  obtain ⟨RG, hRG⟩ : ∃ RG, RG = frG H G1 := ⟨_, rfl⟩
  have rgs : ∀ x o, RG x = some o → H x = none ∧ G1 x = some o ∧ ∃ xs, o = .lst xs := fun x o h => frG_some (by rw [hRG] at h; exact h)
  have rgn : ∀ x, H x ≠ none → RG x = none := fun x h => by rw [hRG]; exact frG_none h
  have hm : Ex (nwG H G1) (mergeG RG (tupG (dropG RG G1))) := by rw [hRG]; exact nw_merge
  have hls : LstR RG := by rw [hRG]; exact fr_ls
  rw [← hRG]
  have pp : ∀ x, putS j .no (putS j x s1) = putS j .no s1 := fun x => by simp [putS]
  have jσ : j < σ.length := by rw [← S1.len]; exact jl
  have exT0 : Ex G0 (dropG RG G1) := fun x o e => by
    rw [drop_out (rgn x (by rw [S0.gh x o e]; simp))]
    exact st1.ex x o e
  have stT := st0.trans st1
  have hj : ∀ y, (putS j y s1).d[j]? = some y := fun y => by simp only [putS]; exact List.getElem?_set_self jl
  have oa : ∀ i x, OwnAt (putS j .no s1) (σ.set j (some v)) i x → i ≠ j ∧ OwnAt (putS j .no s1) σ i x ∧ OwnAt s1 σ i x := by
    rintro i x ⟨⟨es, e⟩, e2⟩
    by_cases q : i = j
    · subst q
      rw [hj] at e
      cases e
    · rw [List.getElem?_set_ne (Ne.symm q)] at e2
      have e' := e
      simp only [putS, List.getElem?_set_ne (Ne.symm q)] at e'
      exact ⟨q, ⟨⟨es, e⟩, e2⟩, ⟨es, e'⟩, e2⟩
  have ow : ∀ x, Own (putS j .no s1) (σ.set j (some v)) x → Own s1 σ x := fun x z => by
    rcases z with ⟨i, z⟩ | z
    · exact .inl ⟨i, (oa i x z).2.2⟩
    · exact .inr z
  have g1own : ∀ x, Own s1 σ x → G1 x = none := fun x z => by
    rcases z with ⟨i, z⟩ | z
    · exact S1.ownG i x z
    · exact G_pown S1.pw z
  have keepN : Ex RG H1 := fun x o z => S1.gh x o (rgs x o z).2.1
  have cd : Ex (cutG (fun x => RG x ≠ none) G1) (dropG RG G1) := cut_drop hls keepN S1.gh fun x o q z => by rw [q] at z; cases z
  refine ⟨?_, ⟨st0.ex.trans exT0, fun x o h1 h2 => ?_, fun x z => ?_, stT.dom, stT.pw⟩, by simpa [putS] using jl, hj _, List.getElem?_set_self jσ, dp_mono hm _ _ hr, hls, fun x o z => ⟨keepN x o z, drop_in z, fun w => ?_, (rgs x o z).1⟩⟩
  · rw [pp]
    refine ⟨by simp [putS, S1.len], fun x o e => S1.gh x o (drop_ex x o e), fun i sl h => ?_, fun i k x h1 h2 => S1.inj i k x (oa i x h1).2.2 (oa k x h2).2.2, fun i x h => drop_none (S1.ownG i x (oa i x h).2.2), ?_, fun i x h => S1.pne i x (oa i x h).2.2⟩
    · by_cases q : i = j
      · subst q
        rw [hj] at h
        cases h
        trivial
      · obtain ⟨x, ex, op⟩ := okTs_get ok h
        simp only [putS, List.getElem?_set_ne (Ne.symm q)] at h ex
        rw [List.getElem?_set_ne (Ne.symm q)]
        have z0 := S0.slot i x ex
        have z1 := S1.slot i sl h
        cases x with
        | no => cases op; trivial
        | raw u => cases op; exact z1
        | val d' => cases op; obtain ⟨u, eu, hu⟩ := z0; exact ⟨u, eu, dp_mono exT0 _ _ hu⟩
        | ob o => cases op; obtain ⟨u, eu, hu⟩ := z0; exact ⟨u, eu, ob_mono exT0 hu⟩
        | own es =>
          obtain ⟨f, ⟨es', rfl, f'⟩ | rfl⟩ := op
          · obtain ⟨b, ys, eb, hb, hh⟩ := z1
            exact ⟨b, ys, eb, hb, dps_mono cd _ _ (rps_cut _ _ hh f')⟩
          · obtain ⟨u, eu, hu⟩ := z1
            refine ⟨u, eu, ?_⟩
            obtain ⟨b, ys, eb, hb, hh⟩ := z0
            rw [eu] at eb
            cases eb
            cases hu with
            | lst h1 h2 => exact .lst (by rw [drop_out (rgn b (by rw [hb]; simp))]; exact h1) (dps_mono cd _ _ (rps_cut _ _ h2 f))
    · have q : PwOk G1 s1.w H1 := S1.pw
      show PwOk _ s1.w H1
      exact pwok_to q (fun _ _ h _ => h) (fun _ _ h => h) fun x h => drop_none (G_pown q h)
  · obtain ⟨h3, h4⟩ := stT.keep x o h1 h2
    exact ⟨h3, by rw [drop_out (rgn x (by rw [h1]; simp))]; exact h4⟩
  · rw [pp] at z
    exact stT.own x (ow x z)
  · rw [pp] at w
    have := g1own x (ow x w)
    rw [(rgs x o z).2.1] at this
    cases this
end
section
variable {X : Cx} {cl : String → Addr} {W : WX} {e : Expr} {f : M R} {pos pos' : Pos} {rest : List Stmt} {g : DSt → Flow} {j : Nat} {x : Str}
theorem u_block (js : List Nat) (hN : X.N.Nodup) (hi : X.N[j]? = some x) (hx : Loc X.env.scope x) (he : PE X e (tDn X.K cl W f)) (hr : PSs X rest (tUF X.K cl W j g)) (hs : swapsWith e (some (.Name x pos')) pos.line X.env = pure false := by rfl)
    (hf : X.fn x = true ∨ X.env.scope.names.lookup x = some .local := by first | exact .inl rfl | exact .inr rfl | assumption) :
    DSs X cl W (.Assign [.Name x pos'] e pos :: rest) (fUB j js f g) := by
  refine pss_imp (pss_cons (ps_set hN hi hx he hs hf) hr) fun D σ H ⟨G, s, S, h⟩ => ?_
  obtain ⟨G0, st0, S0⟩ := frz_ok js S
  refine ⟨G0, frzS js s, S0, ?_⟩
  unfold fUB at h
  cases z : f (frzS js s) with
  | err y s1 => rw [z] at h; exact fun c d G1 H1 st1 S1 xr => h c d G1 σ H1 (st0.trans st1) S1 xr
  | stuck => rw [z] at h; exact h.elim
  | ok r s1 =>
    rw [z] at h
    intro G1 H1 st1 S1 v rr nr
    cases r with
    | raw u => exact h.elim
    | ob u => exact h.elim
    | slot u => exact h.elim
    | val d =>
      unfold kUB at h
      dsimp only at h
      split at h
      rotate_left
      · exact h.elim
      rename_i hc
      exact ⟨G, s, σ, H, _, _, v, d, _, ua_start st0 S0 st1 S1 hc.2 hc.1 nr, h⟩
    | new ds =>
      unfold kUB at h
      dsimp only at h
      split at h
      rotate_left
      · exact h.elim
      rename_i hc
      obtain ⟨a, xs, rfl, ha, hd, ga, h0, na⟩ := rr
      obtain ⟨a', xs', e', ha', hd'⟩ := nr
      cases e'
      rw [ha] at ha'
      cases ha'
      obtain ⟨ug, S2, rp⟩ := know S1 ha hd ga na
      have st2 : Stp G0 (frzS js s) σ H (upd G1 a (.lst xs)) s1 σ H1 := ⟨st1.ex.trans ug, fun b u hb nb => by
        obtain ⟨h1, g1⟩ := st1.keep b u hb nb
        exact ⟨h1, by rw [upd_ne fun z => by subst z; rw [h0] at hb; cases hb]; exact g1⟩, st1.own, st1.dom, st1.pw⟩
      have nr2 : Rp X.K (nwG H (upd G1 a (.lst xs))) (.ref a) (.list ds) := .lst (cut_keep upd_same fun n => n h0) (dps_mono (cut_mono ug fun _ z => z) _ _ hd')
      exact ⟨G, s, σ, H, _, _, .ref a, .list ds, _, ua_start st0 S0 st2 S2 hc.2 hc.1 nr2, h⟩
def kUSetC (k : Nat) (r : R) (s1 : DSt) : Flow := if k < s1.d.length then (match r with
  | .val d => .next (putS k (.val d) s1)
  | .new ds => .next (putS k (.val (.list ds)) s1)
  | _ => .stuck) else .stuck
def uSetC (k : Nat) (f : M R) : DSt → Flow := fun s => onU s (f s) (kUSetC k)
end
/-! ### calls -/
section
variable (K : PySem.W.Frag) (cl : String → Addr) (W : WX)
def spFn (F : List R → Pw → FRes) : Sp := fun vs H Q E => ∃ (G : Hp) (rs : List R) (w : Pw), Ex G H ∧ Paired (AR K G) vs rs ∧ PwOk G w H ∧ match F rs w with
  | .ok r w' => ∀ v G' H', FStp G w H G' w' H' → PwOk G' w' H' → FRel K H G' w' H' v r → NewR K H G' H' v r → Q v H'
  | .err x w' => ∀ cls d G' H', FStp G w H G' w' H' → PwOk G' w' H' → XRel K cl x cls d G' → E cls d H'
  | .stuck => False
end
def Caln (P : Program) (w : World) (K : PySem.W.Frag) (mg : Str → Option Value) (base : Heap) (cl : String → Addr) (x : Str) (k : Nat) (ps : List Str) (F : List R → Pw → FRes) : Prop :=
  ∃ (f : Addr) (fd : FuncData), FnG P w K mg base (L2.CX P w) k f fd ps (spFn K cl F) ∧ mg x = some (.ref f) ∧ PySem.W.keepIn K (.ref f) = true ∧ Binds K fd ps []
theorem rrel_call {K : PySem.W.Frag} {H H1 G' H' : Hp} {s1 : DSt} {σ : L2.St} {w' : Pw} {v : V} {r : R} {G1 : Hp} (S1 : SA K G1 s1 σ H1) (dm : Dom H H1) (fr : FRel K H1 G' w' H' v r) : RRel K H G' { s1 with w := w' } σ H' v r := by
  cases r with
  | val d => exact fr
  | raw u => exact fr
  | ob o => exact fr
  | slot i => exact fr.elim
  | new ds =>
    obtain ⟨a, xs, e, ha, hd, hg, h0, hn⟩ := fr
    refine ⟨a, xs, e, ha, hd, hg, dm.none h0, fun z => ?_⟩
    rcases z with ⟨i, z⟩ | z
    · obtain ⟨ys, e2⟩ := S1.ownL z
      rw [h0] at e2; cases e2
    · exact hn z
section
variable {X : Cx} {cl : String → Addr} {W : WX} {H0 : Hp} {e a b c : Expr} {es : List Expr} {f g : M R} {fs : M (List R)} {pos : Pos} {st : Stmt} {rest : List Stmt} {p q : DSt → Flow}
theorem dn_cal {F : List R → Pw → FRes} {k : Nat} {ps : List Str} {x : Str} {p : Pos} (h : Caln X.prog X.w X.K X.mg X.base cl x k ps F) (hr : RoomG k X.A) (hx : ∀ σ, PassesAt (L2.CX X.prog X.w) X σ (WE W σ)) (ha : DAe X cl W (e :: es) fs) (hg : Gl X x := by rfl) (hdb : (x == ("__debug__" : Str)) = false := by decide)
    (he : starEach (e :: es) X.env = (false, eval e X.env) :: starEach es X.env := by rfl) (hpl : (backTo pos (starEach es X.env)).any (·.1) = false := by rfl) : PE X (.Call (.Name x p) (e :: es) [] pos) (tDn X.K cl W (fUser F fs)) := by
  obtain ⟨f, fd, ok, g, kp, b⟩ := h
  refine pe_imp (pe_callG ok hr hg g kp b hx ha hdb he hpl) fun σ H Q ⟨G, s, S, q⟩ => ?_
  refine ⟨G, s, S, out_mono (out_bind q) fun rs G1 s1 H1 st1 S1 k vs hv => ⟨G1, rs, s1.w, S1.gh, hv, S1.pw, ?_⟩⟩
  cases z : F rs s1.w with
  | ok r w' =>
    rw [z] at k
    intro v G' H' f pw fr nr
    obtain ⟨st, S'⟩ := call_stp S1 f pw
    exact k G' H' st S' v (rrel_call S1 st1.dom fr) (nr.less st1.dom)
  | err x w' =>
    rw [z] at k
    intro cls d G' H' f pw xr
    obtain ⟨st, S'⟩ := call_stp S1 f pw
    exact k cls d G' H' st S' xr
  | stuck => rw [z] at k; exact k
/-! ### new by what it holds -/
mutual
def subL : PyData → List PyData
  | .list ds => .list ds :: subLs ds
  | .tuple ds => subLs ds
  | _ => []
def subLs : List PyData → List PyData
  | [] => []
  | d :: ds => subL d ++ subLs ds
end
end
section
variable {K : PySem.W.Frag} {G H : Hp}
mutual
theorem rp_fun : ∀ (d e : PyData) (v : V), Rp K H v d → Rp K H v e → d = e
  | .none, e, _, h, h2 => by cases h; cases h2; rfl
  | .bool b, e, _, h, h2 => by cases h; cases h2; rfl
  | .int i, e, _, h, h2 => by cases h; cases h2; rfl
  | .str x, e, _, h, h2 => by cases h; cases h2; rfl
  | .list ds, e, _, h, h2 => by
    cases h with
    | lst hs ha =>
      cases h2 with
      | lst hs2 ha2 => rw [hs] at hs2; cases hs2; rw [rps_fun ds _ _ ha ha2]
      | tup hs2 ha2 => rw [hs] at hs2; cases hs2
  | .tuple ds, e, _, h, h2 => by
    cases h with
    | tup hs ha =>
      cases h2 with
      | lst hs2 ha2 => rw [hs] at hs2; cases hs2
      | tup hs2 ha2 => rw [hs] at hs2; cases hs2; rw [rps_fun ds _ _ ha ha2]
  | .dict _, _, _, h, _ => by cases h
theorem rps_fun : ∀ (ds es : List PyData) (vs : List V), RpAll K H vs ds → RpAll K H vs es → ds = es
  | [], es, _, h, h2 => by cases h; cases h2; rfl
  | d :: ds, es, _, h, h2 => by
    cases h with
    | cons h1 t1 =>
      cases h2 with
      | cons h2 t2 => rw [rp_fun d _ _ h1 h2, rps_fun ds _ _ t1 t2]
end
def amG (K : PySem.W.Frag) (S : List PyData) (G : Hp) : Hp := cutG (fun a => ¬ ∃ es, Rp K G (.ref a) (.list es) ∧ PyData.list es ∈ S) G
mutual
theorem rp_am {S : List PyData} : ∀ (d : PyData) (v : V), Rp K G v d → (∀ e ∈ subL d, e ∈ S) → Rp K (amG K S G) v d
  | .none, _, h, _ => by cases h; exact .non
  | .bool b, _, h, _ => by cases h; exact .bl b
  | .int i, _, h, _ => by cases h; exact .int i
  | .str x, _, h, _ => by cases h; exact .str x
  | .list ds, _, h, f => by
    cases id h with
    | lst hs ha => exact .lst (cut_keep hs fun n => n ⟨ds, h, f _ (by simp [subL])⟩) (rps_am ds _ ha fun e he => f e (by simp [subL, he]))
  | .tuple ds, _, h, f => by
    cases h with
    | tup hs ha => exact .tup (cut_tup hs) (rps_am ds _ ha fun e he => f e (by simpa [subL] using he))
  | .dict _, _, h, _ => by cases h
theorem rps_am {S : List PyData} : ∀ (ds : List PyData) (vs : List V), RpAll K G vs ds → (∀ e ∈ subLs ds, e ∈ S) → RpAll K (amG K S G) vs ds
  | [], _, h, _ => by cases h; exact .nil
  | d :: ds, _, h, f => by
    cases h with
    | cons h1 h2 => exact .cons (rp_am d _ h1 fun e he => f e (by simp [subLs, he])) (rps_am ds _ h2 fun e he => f e (by simp [subLs, he]))
end
mutual
theorem rp_notam {N : Addr → Prop} {S : List PyData} : ∀ (d : PyData) (v : V), Rp K G v d → (∀ e ∈ subL d, e ∉ S) → (∀ a es, Rp K G (.ref a) (.list es) → N a → PyData.list es ∈ S) → Rp K (cutG N G) v d
  | .none, _, h, _, _ => by cases h; exact .non
  | .bool b, _, h, _, _ => by cases h; exact .bl b
  | .int i, _, h, _, _ => by cases h; exact .int i
  | .str x, _, h, _, _ => by cases h; exact .str x
  | .list ds, _, h, f, n => by
    cases id h with
    | lst hs ha => exact .lst (cut_keep hs fun z => f _ (by simp [subL]) (n _ _ h z)) (rps_notam ds _ ha (fun e he => f e (by simp [subL, he])) n)
  | .tuple ds, _, h, f, n => by
    cases h with
    | tup hs ha => exact .tup (cut_tup hs) (rps_notam ds _ ha (fun e he => f e (by simpa [subL] using he)) n)
  | .dict _, _, h, _, _ => by cases h
theorem rps_notam {N : Addr → Prop} {S : List PyData} : ∀ (ds : List PyData) (vs : List V), RpAll K G vs ds → (∀ e ∈ subLs ds, e ∉ S) → (∀ a es, Rp K G (.ref a) (.list es) → N a → PyData.list es ∈ S) → RpAll K (cutG N G) vs ds
  | [], _, h, _, _ => by cases h; exact .nil
  | d :: ds, _, h, f, n => by
    cases h with
    | cons h1 h2 => exact .cons (rp_notam d _ h1 (fun e he => f e (by simp [subLs, he])) n) (rps_notam ds _ h2 (fun e he => f e (by simp [subLs, he])) n)
end
theorem fstp_merge {Gm G' H' : Hp} {w w' : Pw} (e : Ex Gm G) (g : Ex G H) (p : PwOk G w H) (f : FStp Gm w H G' w' H') (p' : PwOk G' w' H') : FStp G w H (mergeG G' G) w' H' ∧ PwOk (mergeG G' G) w' H' ∧ Ex G' (mergeG G' G) := by
  have hG : ∀ a o, G a = some o → H' a = some o ∧ G' a = Gm a := fun a o h => f.keep a o (g a o h) fun z => by rw [G_pown p z] at h; cases h
  have no : ∀ a, POwn w' a → G a = none := fun a z => by
    rcases f.own a z with q | q
    · exact G_pown p q
    · exact Classical.byContradiction fun w => by
        obtain ⟨o, e⟩ := Option.ne_none_iff_exists'.mp w
        rw [g a o e] at q; cases q
  refine ⟨⟨fun a o h => ?_, fun a o h => ?_, fun a o h n => ?_, f.own, f.dom, f.pw⟩, ?_, merge_ex⟩
  · unfold mergeG
    cases q : G' a with
    | none => exact h
    | some o' =>
      have h1 := f.gh a o' q
      rw [(hG a o h).1] at h1
      cases h1
      rfl
  · unfold mergeG at h
    cases q : G' a with
    | none => rw [q] at h; exact (hG a o h).1
    | some o' => rw [q] at h; cases h; exact f.gh a o q
  · obtain ⟨h1, h2⟩ := f.keep a o h n
    refine ⟨h1, ?_⟩
    cases q : G' a with
    | none => exact merge_none q
    | some o' =>
      have h3 : Gm a = some o' := by rw [← h2]; exact q
      rw [merge_ex a o' q, e a o' h3]
  · exact pwok_to p' (fun _ _ h _ => h) (fun _ _ h => h) fun a z => by rw [merge_none (G_pown p' z)]; exact no a z
end
def subRs : List R → List PyData
  | [] => []
  | .val d :: r => subL d ++ subRs r
  | _ :: r => subRs r
def unlR (rs : List R) : R → Prop
  | .val d => ∀ e ∈ subL d, e ∉ subRs rs
  | .new ds => ∀ e ∈ subLs ds, e ∉ subRs rs
  | _ => False
def okAr : List R → Prop
  | [] => True
  | .val _ :: r => okAr r
  | .raw _ :: r => okAr r
  | _ => False
def fUserN (F : List R → Pw → FRes) (fs : M (List R)) : M R := bnd fs fun rs s => match F rs s.w with
  | .ok r w' => @ite _ (unlR rs r ∧ okAr rs) (Classical.propDecidable _) (.ok r { s with w := w' }) .stuck
  | .err x w' => @ite _ (okAr rs) (Classical.propDecidable _) (.err x { s with w := w' }) .stuck
  | .stuck => .stuck
theorem pair_am {K : PySem.W.Frag} {G : Hp} {S : List PyData} : ∀ {vs : List V} {rs : List R}, Paired (AR K G) vs rs → okAr rs → (∀ e ∈ subRs rs, e ∈ S) → Paired (AR K (amG K S G)) vs rs
  | _, _, .nil, _, _ => .nil
  | _, .val d :: r, .cons h t, o, f => .cons (rp_am d _ h fun e he => f e (by simp [subRs, he])) (pair_am t o fun e he => f e (by simp [subRs, he]))
  | _, .raw v :: r, .cons h t, o, f => .cons h (pair_am t o fun e he => f e (by simpa [subRs] using he))
  | _, .new _ :: _, _, o, _ => o.elim
  | _, .ob _ :: _, _, o, _ => o.elim
  | _, .slot _ :: _, _, o, _ => o.elim
section
variable {X : Cx} {cl : String → Addr} {W : WX} {e : Expr} {es : List Expr} {fs : M (List R)} {pos : Pos}
theorem dn_calD {F : List R → Pw → FRes} {k : Nat} {ps : List Str} {x : Str} {p : Pos} (h : Cal X.prog X.w X.K X.mg X.base cl x k ps F) (hr : RoomG k X.A) (hx : ∀ σ, PassesAt (L2.CX X.prog X.w) X σ (WE W σ)) (ha : DAe X cl W (e :: es) fs) (hg : Gl X x := by rfl) (hdb : (x == ("__debug__" : Str)) = false := by decide)
    (he : starEach (e :: es) X.env = (false, eval e X.env) :: starEach es X.env := by rfl) (hpl : (backTo pos (starEach es X.env)).any (·.1) = false := by rfl) : PE X (.Call (.Name x p) (e :: es) [] pos) (tDn X.K cl W (fUserN F fs)) := by
  obtain ⟨f, fd, ok, g, kp, b⟩ := h
  refine pe_imp (pe_callG ok hr hg g kp b hx ha hdb he hpl) fun σ H Q ⟨G, s, S, q⟩ => ?_
  refine ⟨G, s, S, out_mono (out_bind q) fun rs G1 s1 H1 st1 S1 k vs hv => ?_⟩
  have amx : Ex (amG X.K (subRs rs) G1) G1 := cut_ex
  have oka : okAr rs := by
    cases z : F rs s1.w with
    | stuck => rw [z] at k; exact k.elim
    | ok r w' =>
      rw [z] at k; dsimp only at k
      by_cases q : unlR rs r ∧ okAr rs
      · exact q.2
      · rw [if_neg q] at k; exact k.elim
    | err x w' =>
      rw [z] at k; dsimp only at k
      by_cases q : okAr rs
      · exact q
      · rw [if_neg q] at k; exact k.elim
  have pwm : PwOk (amG X.K (subRs rs) G1) s1.w H1 := by
    exact pwok_to S1.pw (fun _ _ h _ => h) (fun _ _ h => h) fun a z => cut_none (G_pown S1.pw z)
  refine ⟨amG X.K (subRs rs) G1, rs, s1.w, amx.trans S1.gh, pair_am hv oka (fun _ z => z), pwm, ?_⟩
  cases z : F rs s1.w with
  | ok r w' =>
    rw [z] at k
    dsimp only at k
    by_cases un : unlR rs r ∧ okAr rs
    rotate_left
    · rw [if_neg un] at k; exact k.elim
    rw [if_pos un] at k
    intro v G' H' f pw fr
    obtain ⟨fm, pm, xm⟩ := fstp_merge amx S1.gh S1.pw f pw
    obtain ⟨st, S'⟩ := call_stp S1 fm pm
    have nG : ∀ a es, Rp X.K G' (.ref a) (.list es) → H1 a ≠ none → PyData.list es ∈ subRs rs := by
      intro a es rp ha
      obtain ⟨o, ea⟩ := Option.ne_none_iff_exists'.mp ha
      cases id rp with
      | lst hs hd =>
        have np : ¬ POwn s1.w a := fun z => by
          have := f.pw a z
          rw [G_pown pw this] at hs
          cases hs
        obtain ⟨h1, h2⟩ := f.keep a o ea np
        rw [h2] at hs
        have h3 := cut_lst hs
        have h3 : ∃ es, Rp X.K G1 (.ref a) (.list es) ∧ PyData.list es ∈ subRs rs := Classical.byContradiction h3
        obtain ⟨es', r1, m1⟩ := h3
        have e1 : Ex G1 H' := fun b u hb => (f.keep b u (S1.gh b u hb) fun z => by rw [G_pown S1.pw z] at hb; cases hb).1
        have := rp_fun _ _ _ (dp_mono e1 _ _ r1) (dp_mono f.gh _ _ rp)
        cases this
        exact m1
    have fr' : FRel X.K H1 (mergeG G' G1) w' H' v r := by
      cases r with
      | val d => exact dp_mono xm _ _ fr
      | raw u => exact fr
      | ob o => exact ob_mono xm fr
      | slot i => exact fr
      | new ds =>
        obtain ⟨a, xs, e, ha, hd, hg, h0, hn⟩ := fr
        refine ⟨a, xs, e, ha, dps_mono xm _ _ hd, ?_, h0, hn⟩
        rw [merge_none hg]
        exact Classical.byContradiction fun w => by
          obtain ⟨o, e⟩ := Option.ne_none_iff_exists'.mp w
          rw [S1.gh a o e] at h0; cases h0
    refine k _ H' st S' v (rrel_call S1 st1.dom fr') (NewR.less st1.dom ?_)
    cases r with
    | val d => exact dp_mono (cut_mono xm fun _ z => z) _ _ (rp_notam d v fr un.1 nG)
    | new ds =>
      obtain ⟨a, xs, e, ha, hd, hg, h0, hn⟩ := fr
      exact ⟨a, xs, e, ha, dps_mono (cut_mono xm fun _ z => z) _ _ (rps_notam ds xs hd un.1 nG)⟩
    | raw u => exact un.1
    | ob o => exact un.1
    | slot i => exact un.1
  | err x w' =>
    rw [z] at k
    dsimp only at k
    rw [if_pos oka] at k
    intro cls d G' H' f pw xr
    obtain ⟨fm, pm, xm⟩ := fstp_merge amx S1.gh S1.pw f pw
    obtain ⟨st, S'⟩ := call_stp S1 fm pm
    exact k cls d _ H' st S' ⟨xr.1, exa_mono xm xr.2⟩
  | stuck => rw [z] at k; exact k
def nestR : R → Prop
  | .val (.tuple ds) => nestOk ds
  | .val d => atomD d = true
  | .new ds => nestOk ds
  | _ => False
def fUserO (F : List R → Pw → FRes) (fs : M (List R)) : M R := bnd fs fun rs s => match F rs s.w with
  | .ok r w' => @ite _ (nestR r) (Classical.propDecidable _) (.ok r { s with w := w' }) .stuck
  | .err x w' => .err x { s with w := w' }
  | .stuck => .stuck
end
end DL

/-! DL60: defs that tell what is new all through -/
noncomputable section
namespace DL
open PySem L2 PyProof.Rows
open Evl (Ex)
section
variable {cl : String → Addr} {W : WX}
theorem lcn_reads {K : PySem.W.Frag} {gg : TG} {bd : Bd} {js vs : List Nat} {ft : M Bool} {fe : M R} {fi : M (List PyData)} (ho : GOk K gg bd js) (hj : ∀ j ∈ js, j ∈ vs) {σ : L2.St} {H : Hp} {Q : VK} (q : tDn K cl W (fLc fi bd ft fe vs) σ H Q) :
    tLc (tI K cl W fi) gg (tT K cl (fun _ _ _ _ => False) ft) (tDn K cl (fun _ _ _ _ => False) fe) vs σ H Q := by
  obtain ⟨G, s, S, q⟩ := q
  refine ⟨G, s, S, out_mono (out_bind q) fun ds G1 s1 H1 st1 S1 k J hJ D hD => ?_⟩
  have k : Out K cl W G1 s1 σ H1 (if leS (ds.length) then loopC bd ft fe vs ds [] s1 else .stuck) _ := out_bind k
  by_cases hz : leS ds.length
  rotate_left
  · rw [if_neg hz] at k; exact k.elim
  rw [if_pos hz] at k
  have hz : ds.length ≤ sizeLine := hz
  obtain ⟨stD, SD, rrD⟩ := new_list (ds := []) S1 hD .nil st1.dom
  obtain ⟨aD, xD, eD, _, _, gD, _, nD⟩ := rrD
  cases eD
  refine ⟨fun i m H2 => ∃ G2 s2 acc accv, SA K G2 s2 σ H2 ∧ Stp G1 s1 σ H1 G2 s2 σ H2 ∧ H2 D = some (.lst accv) ∧ RpAll K (nwG H G2) accv acc ∧ G2 D = none ∧ ¬ Own s2 σ D ∧ acc.length ≤ i ∧ m = ds.length - i ∧ i ≤ ds.length ∧
      Out K cl W G1 s1 σ H1 (loopC bd ft fe vs (ds.drop i) acc s2) _, ⟨ds.length, G1, s1, [], [], SD, stD, upd_same, .nil, gD, nD, Nat.le_refl _, by simp, Nat.zero_le _, by simpa using k⟩, ?_⟩
  rintro i m H2 ⟨G2, s2, acc, accv, S2, st2, hD2, hacc, gD2, nD2, hla, rfl, hi, k2⟩
  obtain ⟨j1, j2⟩ := hJ G2 s2 σ H2 st2.ex S2 i
  by_cases hl : i < ds.length
  · obtain ⟨go, yl⟩ := j1 ds[i] (List.getElem?_eq_getElem hl)
    rw [List.drop_eq_getElem_cons hl] at k2
    unfold loopC at k2
    refine .inr ⟨go, fun H3 => ∃ G3 s3 acc accv, SA K G3 s3 σ H3 ∧ Stp G1 s1 σ H1 G3 s3 σ H3 ∧ H3 D = some (.lst accv) ∧ RpAll K (nwG H G3) accv acc ∧ G3 D = none ∧ ¬ Own s3 σ D ∧ acc.length ≤ i + 1 ∧
      Out K cl W G1 s1 σ H1 (loopC bd ft fe vs (ds.drop (i + 1)) acc s3) _, fun H3 ⟨G3, s3, acc, accv, a1, a2, a3, a4, a5, a6, a7, a8⟩ => ⟨ds.length - (i + 1), by omega, G3, s3, acc, accv, a1, a2, a3, a4, a5, a6, a7, rfl, hl, a8⟩, fun x H3 y => ?_⟩
    by_cases hn : noOwn vs s2.d = true
    rotate_left
    · rw [if_neg hn] at k2; exact k2.elim
    rw [if_pos hn] at k2
    obtain ⟨stB, SB⟩ := sa_blank vs S2 hn
    obtain ⟨j3, _⟩ := hJ G2 _ _ H2 st2.ex SB i
    obtain ⟨_, yl⟩ := j3 ds[i] (List.getElem?_eq_getElem hl)
    obtain ⟨G3, st3, S3, rp⟩ := yl x H3 y
    cases eb : bd ds[i] { s2 with d := blank vs s2.d } with
    | none => rw [eb] at k2; exact k2.elim
    | some s4 =>
      rw [eb] at k2
      refine ho x ds[i] G3 _ (wipe σ vs) H3 s4 _ S3 rp eb fun σ4 l4 n4 m4 w4 st4 S4 => ?_
      have hw : wipe σ4 vs = wipe σ vs := (wipe_same l4 fun i hi => n4 i fun z => hi (hj i z)).trans (wipe_wipe σ vs)
      refine ⟨hw, G3, s4, S4, ?_⟩
      have stA := (stB.trans st3).trans st4
      -- what holds behind the turn
      have fin : ∀ {G5 : Hp} {s5 : DSt} {H5 : Hp}, Stp G2 s2 σ H2 G5 s5 σ4 H5 → SA K G5 s5 σ4 H5 → SA K G5 { s5 with d := putBack vs s2.d s5.d } σ H5 ∧ Stp G1 s1 σ H1 G5 { s5 with d := putBack vs s2.d s5.d } σ H5 ∧ H5 D = some (.lst accv) ∧ G5 D = none ∧ ¬ Own { s5 with d := putBack vs s2.d s5.d } σ D := by
        intro G5 s5 H5 st5 S5
        obtain ⟨b1, b2⟩ := sa_back S2 hn S5 st5.ex hw
        obtain ⟨c1, c2⟩ := st5.keep D _ hD2 nD2
        have st6 : Stp G2 s2 σ H2 G5 { s5 with d := putBack vs s2.d s5.d } σ H5 := ⟨st5.ex, st5.keep, fun a z => st5.own a (b2 a z), st5.dom, st5.pw⟩
        exact ⟨b1, st2.trans st6, c1, c2.trans gD2, fun z => (st6.own D z).elim nD2 fun z => by rw [hD2] at z; cases z⟩
      have k2 : Out K cl W G1 s1 σ H1 ((nerr (ft s4)).bind _) _ := k2
      cases et : ft s4 with
      | err x s5 => rw [et] at k2; exact k2.elim
      | stuck => rw [et] at k2; exact k2.elim
      | ok t s5 =>
        rw [et] at k2
        intro G5 H5 st5 S5
        have st25 := stA.trans st5
        cases t with
        | false =>
          obtain ⟨b1, b2, b3, b4, b5⟩ := fin st25 S5
          exact ⟨G5, _, acc, accv, b1, b2, b3, dps_mono (cut_mono st25.ex fun _ z => z) _ _ hacc, b4, b5, Nat.le_succ_of_le hla, k2⟩
        | true =>
          have k2 : Out K cl W G1 s1 σ H1 ((nerr (bnd fe fEsc s5)).bind _) _ := k2
          refine ⟨G5, s5, S5, ?_⟩
          cases ef : fe s5 with
          | err x s6 => rw [bnd_app, ef] at k2; exact k2.elim
          | stuck => rw [bnd_app, ef] at k2; exact k2.elim
          | ok r s6 =>
            rw [bnd_app, ef] at k2
            intro G6 H6 st6 S6 v rr nr
            have k2 : Out K cl W G1 s1 σ H1 ((nerr (fEsc r s6)).bind _) _ := k2
            unfold fEsc at k2
            cases ee : esc r s6 with
            | none => rw [ee] at k2; exact k2.elim
            | some p =>
              obtain ⟨r2, s7⟩ := p
              rw [ee] at k2
              obtain ⟨G7, st7, S7, ex7, ar⟩ := esc_ok S6 st6 rr ee
              have st27 := st25.trans st7
              obtain ⟨b1, b2, b3, b4, b5⟩ := fin st27 S7
              cases r2 with
              | raw u => exact k2.elim
              | ob o => exact k2.elim
              | new u => exact k2.elim
              | slot u => exact k2.elim
              | val d =>
                have hacc7 := dps_mono (cut_mono (N' := fun a => H a ≠ none) st27.ex fun _ z => z) _ _ hacc
                have dm5 : Dom H H5 := fun a h => st25.dom a (st2.dom a (st1.dom a h))
                have arn : Rp K (nwG H G7) v d := by
                  cases r with
                  | val d' =>
                    cases ee
                    exact dp_mono (cut_mono ex7 fun _ z => z) _ _ (NewR.less dm5 nr)
                  | raw u => exact nr.elim
                  | ob u => exact nr.elim
                  | slot u => exact nr.elim
                  | new u =>
                    cases ee
                    obtain ⟨b, ws, rfl, hb, hd, gb, hb0, nb⟩ := rr
                    obtain ⟨b', ws', e', hb', hd'⟩ := nr
                    cases e'
                    rw [hb] at hb'
                    cases hb'
                    cases (show Rp K G7 (.ref b) (.list u) from ar) with
                    | lst hs _ =>
                      have hs' := S7.gh _ _ hs
                      rw [hb] at hs'
                      cases hs'
                      exact .lst (cut_keep hs fun z => z (dm5.none hb0)) (dps_mono (cut_mono ex7 dm5) _ _ hd')
                refine ⟨accv, b3, ?_, G7, _, acc ++ [d], accv ++ [v], sa_write b1 b4 b5 (fun φ q => by rw [b3] at q; cases q), ⟨b2.ex, fun a o h1 h2 => ?_, b2.own, fun a h1 => ?_, b2.pw⟩, upd_same, dps_app hacc7 (.cons arn .nil), b4, b5, by simp; omega, k2⟩
                · rw [dps_len hacc]
                  omega
                · have ne : a ≠ D := fun z => by subst z; rw [hD] at h1; cases h1
                  rw [upd_ne ne]
                  exact b2.keep a o h1 h2
                · by_cases ne : a = D
                  · subst ne; rw [upd_same]; simp
                  · rw [upd_ne ne]; exact b2.dom a h1
  · have e : i = ds.length := by omega
    subst e
    rw [List.drop_length] at k2
    refine .inl ⟨j2 (Nat.le_refl _), ?_⟩
    have k3 := k2 G2 H2 st2 S2
    have k4 := k3 G2 H2 Stp.refl S2 (.ref D) ⟨D, accv, rfl, hD2, dps_mono cut_ex _ _ hacc, gD2, Classical.byContradiction fun z => st1.dom D z hD, nD2⟩ ⟨D, accv, rfl, hD2, hacc⟩
    exact k4
end
section
variable {X : Cx} {cl : String → Addr} {W : WX} {H0 : Hp} {e a b c tg iter elt : Expr} {es : List Expr} {f g : M R} {fs : M (List R)} {fi : M (List PyData)} {pos : Pos} {st : Stmt} {rest as bs : List Stmt} {p q : DSt → Flow}
theorem dn_lc {ifs : List Expr} {scope : Scope} {own : List (Str × Nat)} {gg : TG} {bd : Bd} {js : List Nat} {ft : M Bool} {fe : M R} (hc : X.calm = true) (hN : X.N.Nodup) (hi : DI X cl W tg iter fi) (ok : BlkOk X.N X.env.scope scope own) (ho : GOk X.K gg bd js) (hj : ∀ j ∈ js, j ∈ own.map (·.2))
    (hg : ∀ (s : Shared) (H : Hp) (C : Addr) (cl : List (Str × Addr)) (fp : List Addr), PG (X.blk s H scope (compEnvC scope cl C X.env) fp) tg gg) (ht : ∀ (s : Shared) (H : Hp) (C : Addr) (clo : List (Str × Addr)) (fp : List Addr), PTs (X.blk s H scope (compEnvC scope clo C X.env) fp) ifs (tT X.K cl W0 ft))
    (he : ∀ (s : Shared) (H : Hp) (C : Addr) (clo : List (Str × Addr)) (fp : List Addr), PE (X.blk s H scope (compEnvC scope clo C X.env) fp) elt (tDn X.K cl W0 fe)) (hs : ∀ x, foldedSetIterable iter X.env x = pure x := by intro _; rfl) :
    PE X (.ListComp elt [⟨tg, iter, ifs, 0⟩] scope pos) (tDn X.K cl W (fLc fi bd ft fe (own.map (·.2)))) := pe_imp (pe_lc hc hN hi ok hg ht he hs) fun σ H Q q => lcn_reads ho hj q
def fLfO (f : M R) : M R := bnd f fun r s => match r with
  | .val d => if lf d = true then .ok (.val d) s else .stuck
  | .new ds => if lfs ds = true then .ok (.new ds) s else .stuck
  | _ => .stuck
theorem dn_lf (h : DE X cl W e f) : PE X e (tDn X.K cl W (fLfO f)) := by
  refine pe_imp h fun σ H Q ⟨G, s, S, q⟩ => ⟨G, s, S, out_mono (out_bind q) fun r G1 s1 H1 st1 S1 k v rr => ?_⟩
  cases r with
  | raw u => exact k.elim
  | ob u => exact k.elim
  | slot u => exact k.elim
  | val d =>
    dsimp only at k
    split at k
    · rename_i f; exact k G1 H1 Stp.refl S1 v rr (rp_cut _ _ rr f)
    · exact k.elim
  | new ds =>
    dsimp only at k
    split at k
    · rename_i f
      obtain ⟨b, ws, e, hb, hd, gb, hb0, nb⟩ := id rr
      exact k G1 H1 Stp.refl S1 v rr ⟨b, ws, e, hb, rps_cut _ _ hd f⟩
    · exact k.elim
def fTupN (f : M R) : M R := bnd f fun r s => match r with
  | .new ds => .ok (.val (.tuple ds)) s
  | _ => .stuck
theorem dn_tuple {p : Pos} (hg : Gl X "tuple") (hm : X.mg "tuple" = none) (ha : PE X e (tDn X.K cl W f))
    (he : starEach [e] X.env = (false, eval e X.env) :: starEach [] X.env := by rfl) (hpl : (backTo pos (starEach [] X.env)).any (·.1) = false := by rfl) : PE X (.Call (.Name "tuple" p) [e] [] pos) (tDn X.K cl W (fTupN f)) := by
  refine pe_imp (pe_callTy call_tuple_of hg hm (by decide +kernel) (pa_cons ha pa_nil he) (by decide) (by decide) he hpl) fun σ H Q ⟨G, s, S, q⟩ => ?_
  refine ⟨G, s, S, out_mono (out_bind q) fun r G1 s1 H1 st1 S1 k v rr nr => ?_⟩
  cases r with
  | raw u => exact k.elim
  | ob u => exact k.elim
  | slot u => exact k.elim
  | val u => exact k.elim
  | new ds =>
    obtain ⟨b, ws, rfl, hb, hd, gb, hb0, nb⟩ := rr
    obtain ⟨b', ws', e', hb', hd'⟩ := nr
    cases e'
    rw [hb] at hb'
    cases hb'
    refine ⟨b, ws, rfl, .inl ⟨.of hb, fun l hl => ?_⟩⟩
    obtain ⟨st2, S2⟩ := new_known (.tup ws) S1 hl
    exact k _ _ st2 S2 _ (.tup upd_same (dps_mono st2.ex _ _ hd)) (.tup (cut_tup upd_same) (dps_mono (cut_mono st2.ex fun _ z => z) _ _ hd'))
end
/-! ### a def -/
section
variable (K : PySem.W.Frag) (cl : String → Addr) (W : WX)
def FOutn (H0 G : Hp) (s : DSt) (σ : L2.St) (H : Hp) (fl : Flow) (D : Ends) : Prop := match fl with
  | .next s' => ∀ G' σ' H', Stp G s σ H G' s' σ' H' → SA K G' s' σ' H' → D.nx σ' H'
  | .brk s' => ∀ G' σ' H', Stp G s σ H G' s' σ' H' → SA K G' s' σ' H' → D.bk σ' H'
  | .cnt s' => ∀ G' σ' H', Stp G s σ H G' s' σ' H' → SA K G' s' σ' H' → D.ct σ' H'
  | .ret r s' => ∀ v G' σ' H', Stp G s σ H G' s' σ' H' → SA K G' s' σ' H' → RRel K H G' s' σ' H' v r → NewR K H0 G' H' v r → D.rt v H'
  | .err x s' => ∀ cls d G' σ' H', Stp G s σ H G' s' σ' H' → SA K G' s' σ' H' → XRel K cl x cls d G' → W cls d σ' H'
  | .stuck => False
def tSn (H0 : Hp) (f : DSt → Flow) : TS := fun D σ H => ∃ G s, SA K G s σ H ∧ Dom H0 H ∧ FOutn K cl W H0 G s σ H (f s) D
end
section
variable {K : PySem.W.Frag} {cl : String → Addr} {W : WX} {H0 G H G' H' : Hp} {s s' : DSt} {σ σ' : L2.St}
theorem foutn_shift {fl : Flow} {D : Ends} (st : Stp G s σ H G' s' σ' H') (h : FOutn K cl W H0 G s σ H fl D) : FOutn K cl W H0 G' s' σ' H' fl D := by
  cases fl with
  | next s2 => exact fun G2 σ2 H2 st2 S2 => h G2 σ2 H2 (st.trans st2) S2
  | brk s2 => exact fun G2 σ2 H2 st2 S2 => h G2 σ2 H2 (st.trans st2) S2
  | cnt s2 => exact fun G2 σ2 H2 st2 S2 => h G2 σ2 H2 (st.trans st2) S2
  | ret r s2 => exact fun v G2 σ2 H2 st2 S2 rr => h v G2 σ2 H2 (st.trans st2) S2 (rr.less st.dom)
  | err x s2 => exact fun c d G2 σ2 H2 st2 S2 xr => h c d G2 σ2 H2 (st.trans st2) S2 xr
  | stuck => exact h
theorem foutn_res {α : Type} {r : Res α} {g : α → DSt → Flow} {D : Ends} (h : FOutn K cl W H0 G s σ H (onRes r g) D) : Out K cl W G s σ H r fun a G1 s1 H1 => FOutn K cl W H0 G s σ H (g a s1) D := by
  cases r with
  | ok a s1 => exact fun G1 H1 st S1 => h
  | err x s1 => exact fun c d G1 H1 st S1 xr => h c d G1 σ H1 st S1 xr
  | stuck => exact h
end
theorem caln_of {P : Program} {w : World} {K : PySem.W.Frag} {mg : Str → Option Value} {base : Heap} {cl : String → Addr} {x : Str} {k : Nat} {N ps : List Str} {st : Stmt} {p : DSt → Flow} (h : Wr K mg x st ps) (S : FnScope N ps (defScope st)) (hN : ps.length ≤ N.length)
    (hb : ∀ (f : Addr) (cdv : Value) (A : Around) (outer : List Env) (s : Shared) (H : Hp) (E : XK), RoomG k (A.deeper (envOfC x (defScope st) s.heap.objs.size f cdv)) →
      PSs (cxOf (L2.CX P w) P w K mg base N x (defScope st) f cdv A outer s H E) (defBody st) (tSn K cl (fun cls d _ H => E cls d H) H p)) : Caln P w K mg base cl x (k + 1) ps (runF N.length ps.length p) := by
  obtain ⟨f, fd, F, g, b⟩ := h
  refine ⟨f, fd, ?_, g, F.kp, b⟩
  have hlen : ∀ {rs : List R} {w : Pw}, (match runF N.length ps.length p rs w with | .stuck => False | _ => True) → rs.length = ps.length := by
    intro rs w h
    unfold runF at h
    split at h
    · exact h.elim
    · rename_i z
      by_cases q : rs.length = ps.length
      · exact q
      · rw [if_neg q] at z; exact absurd rfl z
  refine okG F S (fun vs H Q E h => ?_) fun cdv A outer s H vs Q E hr h => ⟨_, hb f cdv A outer s H E hr, ?_⟩
  · obtain ⟨G, rs, w, gh, hv, pw, k⟩ := h
    rw [pair_len hv]
    refine hlen (w := w) ?_
    cases z : runF N.length ps.length p rs w with
    | ok r w' => trivial
    | err x w' => trivial
    | stuck => rw [z] at k; exact k
  · obtain ⟨G, rs, w, gh, hv, pw, k⟩ := h
    have hn : rs.length = ps.length := by
      refine hlen (w := w) ?_
      cases z : runF N.length ps.length p rs w with
      | ok r w' => trivial
      | err x w' => trivial
      | stuck => rw [z] at k; exact k
    have S0 := start_sa gh hv pw hn hN
    refine ⟨G, ⟨rs.map toSl ++ List.replicate (N.length - ps.length) .no, w⟩, show SA K G _ (L2.start N vs) H from S0, fun a h => h, ?_⟩
    unfold runF at k
    rw [if_pos hn] at k
    cases z : p ⟨rs.map toSl ++ List.replicate (N.length - ps.length) .no, w⟩ with
    | next s' => rw [z] at k; exact fun G' σ' H' st S' => k .non G' H' (fstp_of st S') S'.pw .non .non
    | brk s' => rw [z] at k; exact k.elim
    | cnt s' => rw [z] at k; exact k.elim
    | stuck => rw [z] at k; exact k.elim
    | err x s' => rw [z] at k; exact fun cls d G' σ' H' st S' xr => k cls d G' H' (fstp_of st S') S'.pw xr
    | ret r s' =>
      rw [z] at k
      intro v G' σ' H' st S' rr dr
      cases r with
      | val d => exact k v G' H' (fstp_of st S') S'.pw rr dr
      | raw u => exact dr.elim
      | ob u => exact dr.elim
      | new ds =>
        refine k v G' H' (fstp_of st S') S'.pw ?_ dr
        obtain ⟨a, xs, e, ha, hd, hg, h0, hn⟩ := rr
        exact ⟨a, xs, e, ha, hd, hg, h0, fun z => hn (.inr z)⟩
      | slot i => exact dr.elim
section
variable {X : Cx} {cl : String → Addr} {W : WX} {H0 : Hp} {e a b c : Expr} {es : List Expr} {f g : M R} {pos : Pos} {st : Stmt} {rest as bs : List Stmt} {p q : DSt → Flow}
theorem sn_nil : PSs X [] (tSn X.K cl W H0 fnext) := pss_imp pss_nil fun D σ H ⟨G, s, S, o, h⟩ => h G σ H Stp.refl S
theorem sn_one (h : PS X st (tSn X.K cl W H0 p)) : PSs X [st] (tSn X.K cl W H0 p) := pss_one h
theorem sn_cons (h1 : PS X st (tSn X.K cl W H0 p)) (h2 : PSs X rest (tSn X.K cl W H0 q)) : PSs X (st :: rest) (tSn X.K cl W H0 (fseq p q)) := by
  refine pss_imp (pss_cons h1 h2) fun D σ H ⟨G, s, S, o, h⟩ => ⟨G, s, S, o, ?_⟩
  unfold fseq at h
  cases z : p s with
  | next s' => rw [z] at h; exact fun G1 σ1 H1 st1 S1 => ⟨G1, s', S1, fun a h => st1.dom a (o a h), foutn_shift st1 h⟩
  | brk s' => rw [z] at h; exact h
  | cnt s' => rw [z] at h; exact h
  | ret r s' => rw [z] at h; exact h
  | err x s' => rw [z] at h; exact h
  | stuck => rw [z] at h; exact h
theorem sn_if {t : M Bool} (hc : DT X cl W c t) (ha : PSs X as (tSn X.K cl W H0 p)) (hb : PSs X bs (tSn X.K cl W H0 q)) : PS X (.If c as bs pos) (tSn X.K cl W H0 (fIfS t p q)) := by
  refine ps_imp (ps_if hc ha hb) fun D σ H ⟨G, s, S, o, h⟩ => ⟨G, s, S, out_mono (foutn_res h) fun b G1 s1 H1 st1 S1 k => ?_⟩
  have o1 : Dom H0 H1 := fun a h => st1.dom a (o a h)
  cases b with
  | true => exact ⟨G1, s1, S1, o1, foutn_shift st1 k⟩
  | false => exact ⟨G1, s1, S1, o1, foutn_shift st1 k⟩
theorem sn_ret (h : PE X e (tDn X.K cl W f)) : PS X (.Return (some e) pos) (tSn X.K cl W H0 (fRet f)) := by
  refine ps_imp (ps_ret h) fun D σ H ⟨G, s, S, o, h⟩ => ⟨G, s, S, out_mono (foutn_res h) fun r G1 s1 H1 st1 S1 k v rr nr => ?_⟩
  exact k v G1 σ H1 st1 S1 rr (nr.less o)
end
end DL

/-! DL61: isinstance with two classes; a def that empties all lists of a thing; a list within a thing made longer -/
noncomputable section
namespace DL
open PySem L2 PyProof.Rows
open Evl (Ex)
theorem kit2 {K : PySem.W.Frag} {a n m : String} {x y : Bool} (h1 : kitB a n = some x) (h2 : kitB a m = some y) : PySem.W.kitAny K (.type a) [.type n, .type m] = some (x || y) := by
  refine kitAny_cons (kit_ty h1) (fun hx => ?_) fun hx => by rw [hx]; rfl
  refine kitAny_cons (kit_ty h2) (fun hy => by rw [hx, hy]; exact kitAny_nil) fun hy => by rw [hx, hy]; rfl
def fIsi2 (n m : String) (f : M R) : M R := bnd f fun r s => match look r s with
  | some d => .ok (.val (.bool (isT n d || isT m d))) s
  | none => .stuck
section
variable {X : Cx} {cl : String → Addr} {W : WX} {e a b c x y : Expr} {f : M R} {pos : Pos}
end
/-! ### all lists of a thing are emptied -/
def dle : Nat → PyData → Prop
  | 0, .list _ => False
  | 0, .tuple _ => False
  | n + 1, .list ds => ∀ d ∈ ds, dle n d
  | n + 1, .tuple ds => ∀ d ∈ ds, dle n d
  | _, _ => True
structure EmP (K : PySem.W.Frag) (G RG H : Hp) : Prop where
  ls : LstR RG
  tg : Ex (tupG G) H
  rg : ∀ x o, RG x = some o → H x = some o ∨ H x = some (.lst [])
def Tch (K : PySem.W.Frag) (G RG : Hp) (d : PyData) (x : Addr) : Prop := ∃ o e, RG x = some o ∧ Rp K (mergeG RG (tupG G)) (.ref x) (.list e) ∧ sizeOf (PyData.list e) ≤ sizeOf d
structure EmD (K : PySem.W.Frag) (G RG : Hp) (d : PyData) (H H' : Hp) : Prop where
  keep : ∀ x o, H x = some o → ¬ Tch K G RG d x → H' x = some o
  rg : ∀ x o, RG x = some o → H' x = some o ∨ H' x = some (.lst [])
  dom : Dom H H'
section
variable {K : PySem.W.Frag} {G RG H H1 H2 H3 : Hp} {d e : PyData}
theorem EmP.step (p : EmP K G RG H) (h : EmD K G RG d H H1) : EmP K G RG H1 := by
  refine ⟨p.ls, fun x o e => h.keep x o (p.tg x o e) fun ⟨o', e', r, _⟩ => ?_, h.rg⟩
  obtain ⟨xs, rfl⟩ := p.ls x o' r
  have h1 := p.tg x o e
  rcases p.rg x _ r with q | q
  · rw [q] at h1; cases h1; exact absurd trivial (cut_lst e)
  · rw [q] at h1; cases h1; exact absurd trivial (cut_lst e)
theorem EmD.refl (p : EmP K G RG H) : EmD K G RG d H H := ⟨fun _ _ h _ => h, p.rg, fun _ h => h⟩
theorem EmD.trans (h1 : EmD K G RG d H1 H2) (h2 : EmD K G RG d H2 H3) : EmD K G RG d H1 H3 := ⟨fun x o h n => h2.keep x o (h1.keep x o h n) n, h2.rg, fun x h => h2.dom x (h1.dom x h)⟩
theorem EmD.up (h : EmD K G RG d H1 H2) (le : sizeOf d ≤ sizeOf e) : EmD K G RG e H1 H2 := ⟨fun x o h1 n => h.keep x o h1 fun ⟨o', e', r, q, z⟩ => n ⟨o', e', r, q, Nat.le_trans z le⟩, h.rg, h.dom⟩
theorem EmD.ext (p : EmP K G RG H) (e : Ex H H1) : EmD K G RG d H H1 := ⟨fun x o h _ => e x o h, fun x o r => (p.rg x o r).imp (e x _) (e x _), fun x h => by
  obtain ⟨o, q⟩ := Option.ne_none_iff_exists'.mp h
  rw [e x o q]; simp⟩
def Kd (H : Hp) (v : V) : PyData → Prop
  | .list _ => ∃ a xs, v = .ref a ∧ H a = some (.lst xs)
  | .tuple _ => ∃ a xs, v = .ref a ∧ H a = some (.tup xs)
  | .none => v = .non
  | .bool b => v = .bl b
  | .int i => v = .int i
  | .str x => v = .str x
  | .dict _ => False
theorem ty_kd {v : V} (h : Kd H v d) : TyX K H v (.type (tyN d)) := by
  cases d with
  | none => cases (show v = .non from h); exact .base .non
  | bool b => cases (show v = .bl b from h); exact .base (.bl b)
  | int b => cases (show v = .int b from h); exact .base (.int b)
  | str b => cases (show v = .str b from h); exact .base (.str b)
  | list ds => obtain ⟨a, xs, rfl, ha⟩ := h; exact .base (.lst ha)
  | tuple ds => obtain ⟨a, xs, rfl, ha⟩ := h; exact .base (.tup ha)
  | dict kvs => exact (h : False).elim
theorem merge_tup {a : Addr} {xs : List V} (l : LstR RG) (h : mergeG RG (tupG G) a = some (.tup xs)) : tupG G a = some (.tup xs) := by
  unfold mergeG at h
  cases q : RG a with
  | none => rw [q] at h; exact h
  | some o =>
    rw [q] at h
    cases h
    obtain ⟨ys, e⟩ := l a _ q
    cases e
theorem merge_lst {a : Addr} {xs : List V} (h : mergeG RG (tupG G) a = some (.lst xs)) : RG a = some (.lst xs) := by
  unfold mergeG at h
  cases q : RG a with
  | none => rw [q] at h; exact absurd trivial (cut_lst h)
  | some o => rw [q] at h; exact h
theorem kd_of {v : V} (p : EmP K G RG H) (r : Rp K (mergeG RG (tupG G)) v d) : Kd H v d := by
  cases d with
  | none => cases r; rfl
  | bool b => cases r; rfl
  | int b => cases r; rfl
  | str b => cases r; rfl
  | list ds =>
    cases r with
    | lst hs ha =>
      rcases p.rg _ _ (merge_lst hs) with q | q
      · exact ⟨_, _, rfl, q⟩
      · exact ⟨_, _, rfl, q⟩
  | tuple ds =>
    cases r with
    | tup hs ha => exact ⟨_, _, rfl, p.tg _ _ (merge_tup p.ls hs)⟩
  | dict kvs => cases r
end
def spE (K : PySem.W.Frag) (m : Nat) : Sp := fun vs H Q E => ∃ (n : Nat) (v : V) (d : PyData) (G RG : Hp), m = n + 1 ∧ dle n d ∧ vs = [v] ∧ EmP K G RG H ∧ Rp K (mergeG RG (tupG G)) v d ∧ ∀ H', EmD K G RG d H H' → Q .non H'
def CalE (P : Program) (w : World) (K : PySem.W.Frag) (mg : Str → Option Value) (base : Heap) (x : Str) (k : Nat) (ps : List Str) (m : Nat) : Prop :=
  ∃ (f : Addr) (fd : FuncData), FnG P w K mg base (L2.CX P w) k f fd ps (spE K m) ∧ mg x = some (.ref f) ∧ PySem.W.keepIn K (.ref f) = true ∧ Binds K fd ps []
def tEm (K : PySem.W.Frag) (n : Nat) (d : PyData) (u : Bool) : TS := fun D σ H => ∃ v G RG, σ[0]? = some (some v) ∧ σ.length = 2 ∧ dle n d ∧ EmP K G RG H ∧ Rp K (mergeG RG (tupG G)) v d ∧ (u = true → ∀ ds, d = .list ds → False) ∧ ∀ σ' H', EmD K G RG d H H' → σ'[0]? = some (some v) → σ'.length = 2 → D.nx σ' H'
theorem sizeOf_mem {ds : List PyData} {d : PyData} (h : d ∈ ds) : sizeOf d < sizeOf ds := List.sizeOf_lt_of_mem h
section
variable {X : Cx} {W : WX} {pos : Pos} {n : Nat} {d : PyData}
variable {xn pn : Str} {i1 i2 i3 i4 i5 i6 i7 i8 i9 f1 f2 f3 f4 f5 f6 f7 g1 g2 g3 g4 g5 g6 g7 g8 : Pos} {x1 : Nat}
theorem em_body {k : Nat} {fn : Str} (h : CalE X.prog X.w X.K X.mg X.base fn k [xn] n) (hr : RoomG k X.A) (hx : ∀ σ, PassesAt (L2.CX X.prog X.w) X σ (WE W σ)) (hp : PassesOwn (model X.prog X.w) X.A X.env X.xe) (hc : X.calm = true) (hN : X.N.Nodup) (hN0 : X.N[0]? = some xn) (hN1 : X.N[1]? = some pn)
    (hv0 : Vis X.env.scope xn) (hv1 : Vis X.env.scope pn) (hl1 : Loc X.env.scope pn) (hf1 : X.fn pn = true ∨ X.env.scope.names.lookup pn = some .local) (hg : Gl X "isinstance") (hm : X.mg "isinstance" = none)
    (hL : ∀ p : Pos, PE X (.Name "list" p) (tC (.ty "list"))) (hT : ∀ p : Pos, PE X (.Name "tuple" p) (tC (.ty "tuple"))) (hfn : Gl X fn) (hdf : (fn == ("__debug__" : Str)) = false) (hd0 : (xn == ("__debug__" : Str)) = false) (hd1 : (pn == ("__debug__" : Str)) = false) (hc0 : (xn == ("__classdict__" : Str)) = false) (hc1 : (pn == ("__classdict__" : Str)) = false)
    (e1 : starEach [.Name xn i2, .Tuple [.Name "list" i3, .Name "tuple" i4] x1 i5] X.env = (false, eval (.Name xn i2) X.env) :: starEach [.Tuple [.Name "list" i3, .Name "tuple" i4] x1 i5] X.env := by rfl)
    (e2 : starEach [.Tuple [.Name "list" i3, .Name "tuple" i4] x1 i5] X.env = (false, eval (.Tuple [.Name "list" i3, .Name "tuple" i4] x1 i5) X.env) :: starEach [] X.env := by rfl)
    (e3 : starEach [.Name "list" i3, .Name "tuple" i4] X.env = (false, eval (.Name "list" i3) X.env) :: starEach [.Name "tuple" i4] X.env := by rfl)
    (e4 : starEach [.Name "tuple" i4] X.env = (false, eval (.Name "tuple" i4) X.env) :: starEach [] X.env := by rfl)
    (e5 : (backTo i6 (starEach [.Tuple [.Name "list" i3, .Name "tuple" i4] x1 i5] X.env)).any (·.1) = false := by rfl)
    (e6 : ∀ whole, isTrue (.Call (.Name "isinstance" i1) [.Name xn i2, .Tuple [.Name "list" i3, .Name "tuple" i4] x1 i5] [] i6) X.env whole = (do let v ← whole; standAt (Expr.Call (.Name "isinstance" i1) [.Name xn i2, .Tuple [.Name "list" i3, .Name "tuple" i4] x1 i5] [] i6).pos; holding [v] (truthy v)) := by intro _; rfl)
    (e7 : starEach [.Name pn f4] X.env = (false, eval (.Name pn f4) X.env) :: starEach [] X.env := by rfl) (e8 : (backTo f5 (starEach [] X.env)).any (·.1) = false := by rfl)
    (e9 : swapsWith (.Call (.Name fn f3) [.Name pn f4] [] f5) none f6.line X.env = pure false := by rfl) (e10 : ∀ y, foldedSetIterable (.Name xn f2) X.env y = pure y := by intro _; rfl)
    (e11 : starEach [.Name xn g2, .Name "list" g3] X.env = (false, eval (.Name xn g2) X.env) :: starEach [.Name "list" g3] X.env := by rfl)
    (e12 : starEach [.Name "list" g3] X.env = (false, eval (.Name "list" g3) X.env) :: starEach [] X.env := by rfl) (e13 : (backTo g4 (starEach [.Name "list" g3] X.env)).any (·.1) = false := by rfl)
    (e14 : ∀ whole, isTrue (.Call (.Name "isinstance" g1) [.Name xn g2, .Name "list" g3] [] g4) X.env whole = (do let v ← whole; standAt (Expr.Call (.Name "isinstance" g1) [.Name xn g2, .Name "list" g3] [] g4).pos; holding [v] (truthy v)) := by intro _; rfl)
    (e15 : attributeBase (.Name xn g5) "clear" X.env (eval (.Name xn g5) X.env) = eval (.Name xn g5) X.env := by rfl) (e16 : (g6.endLine == g7.line) = true := by rfl) (e17 : swapsWith (.Call (.Attribute (.Name xn g5) "clear" g6) [] [] g7) none g8.line X.env = pure false := by rfl) {q1 q2 : Pos} :
    PSs X [.If (.Call (.Name "isinstance" i1) [.Name xn i2, .Tuple [.Name "list" i3, .Name "tuple" i4] x1 i5] [] i6) [.For (.Name pn f1) (.Name xn f2) [.Expr (.Call (.Name fn f3) [.Name pn f4] [] f5) f6] [] f7] [] q1,
      .If (.Call (.Name "isinstance" g1) [.Name xn g2, .Name "list" g3] [] g4) [.Expr (.Call (.Attribute (.Name xn g5) "clear" g6) [] [] g7) g8] [] q2] (tEm X.K n d false) := by
  obtain ⟨f, fd, ok, gl, kp, b⟩ := h
  have T1 := pt_val (pe_callB call_isiT hg hm (by decide +kernel) (pa_cons (pe_var (pos := i2) hN0 hv0 hd0 hc0) (pa_cons (pe_tup (x1 := x1) (pos := i5) (pa_cons (hL i3) (pa_cons (hT i4) pa_nil e4) e3)) pa_nil e2) e1) (by decide) (by decide) e1 e5) e6
  have B1 := ps_for (pos := f7) hp hc (pi_seq (pe_var (pos := f2) hN0 hv0 hd0 hc0)) (pg_name (pos := f1) hN hN1 hl1 hf1) (pss_one (ps_expr (pos := f6) (pe_callG (E := WE W) ok hr hfn gl kp b hx (pa_cons (pe_var (pos := f4) hN1 hv1 hd1 hc1) pa_nil e7) hdf e7 e8) e9)) e10
  have T2 := pt_val (pe_callB call_isi hg hm (by decide +kernel) (pa_cons (pe_var (pos := g2) hN0 hv0 hd0 hc0) (pa_cons (hL g3) pa_nil e12) e11) (by decide) (by decide) e11 e13) e14
  have B2 := ps_expr (pos := g8) (pe_bm0 PySem.F.plainAttrs_list PySem.F.slot_list_clear PySem.F.type_list_clear mt_clear (pe_var (pos := g5) hN0 hv0 hd0 hc0) e15 e16) e17
  refine pss_imp (pss_cons (ps_if T1 (pss_one B1) pss_nil) (pss_one (ps_if T2 (pss_one B2) pss_nil))) fun D σ H ⟨v, G, RG, ev, lσ, dl, P, rp, _, nx⟩ => ?_
  -- the second statement, from anywhere
  have two : ∀ σ1 H1, EmD X.K G RG d H H1 → σ1[0]? = some (some v) → σ1.length = 2 → tIfS (L2.tB (tCB (rIsi X.K) (tCons (tVar 0) (tCons (tC (.ty "list")) tNil)))) (tDrop (tBM0 X.K "list" rClear (tVar 0))) (fun D σ H => D.nx σ H) D σ1 H1 := by
    intro σ1 H1 h1 ev1 l1
    have P1 := P.step h1
    have kd := kd_of P1 rp
    refine ⟨v, ev1, ⟨v, .ty "list", .type (tyN d), .type "list", isT "list" d, rfl, .ty "list", ty_kd kd, kit_ty (kit_is rfl), _, rfl, ?_⟩⟩
    cases hL : isT "list" d with
    | false => rw [if_neg (by decide)]; exact nx σ1 H1 h1 ev1 l1
    | true =>
      rw [if_pos rfl]
      cases d with
      | list ds =>
        cases id rp with
        | lst hs ha =>
          have hr1 := merge_lst hs
          rename_i a xs
          obtain ⟨xs', hx'⟩ : ∃ xs', H1 a = some (.lst xs') := (P1.rg _ _ hr1).elim (fun q => ⟨_, q⟩) fun q => ⟨_, q⟩
          refine ⟨.ref a, ev1, .inl ⟨rfl, _, .of hx'⟩, a, xs', rfl, rfl, hx', ?_⟩
          refine nx σ1 _ (h1.trans ⟨fun x o e nt => ?_, fun x o e => ?_, fun x z => ?_⟩) ev1 l1
          · rw [upd_ne fun z => nt (by subst z; exact ⟨_, ds, hr1, rp, Nat.le_refl _⟩)]; exact e
          · by_cases z : x = a
            · subst z; exact .inr upd_same
            · rw [upd_ne z]; exact P1.rg x o e
          · by_cases q : x = a
            · subst q; rw [upd_same]; simp
            · rw [upd_ne q]; exact z
      | none => cases hL
      | bool b => cases hL
      | int b => cases hL
      | str b => cases hL
      | tuple b => cases hL
      | dict b => cases hL
  have kd := kd_of P rp
  refine ⟨v, ev, show (2 : Nat) ≤ sizeLine by decide, fun tp htp => ?_⟩
  have ex : Ex H (upd H tp (.tup [.ty "list", .ty "tuple"])) := Ex.new htp
  have D1 : EmD X.K G RG d H (upd H tp (.tup [.ty "list", .ty "tuple"])) := EmD.ext P ex
  have P1 := P.step D1
  refine ⟨v, tp, _, .type (tyN d), _, isT "list" d || isT "tuple" d, rfl, upd_same, .cons (.ty "list") (.cons (.ty "tuple") .nil), ty_kd (kd_of P1 rp), kit2 (kit_is rfl) (kit_is rfl), _, rfl, ?_⟩
  obtain ⟨H1, hH1⟩ : ∃ H1, H1 = upd H tp (.tup [.ty "list", .ty "tuple"]) := ⟨_, rfl⟩
  rw [← hH1] at D1 P1 ex ⊢
  cases hB : (isT "list" d || isT "tuple" d) with
  | false => rw [if_neg (by decide)]; exact two σ H1 D1 ev lσ
  | true =>
    rw [if_pos rfl]
    -- what is walked
    have walk : ∀ {ds : List PyData} {xs : List V} {J : It} {a : Addr}, (∀ e ∈ ds, sizeOf e < sizeOf d ∧ ∃ m, n = m + 1 ∧ dle m e) → RpAll X.K (mergeG RG (tupG G)) xs ds →
        (∀ H2, EmD X.K G RG d H1 H2 → (∀ x o, H1 x = some o → x = a → H2 x = some o) → (∀ i, (i < xs.length → J.go i H2 ∧ ∀ y H3, J.yld i H2 y H3 → H3 = H2 ∧ xs[i]? = some y) ∧ (xs.length ≤ i → J.stop i H2))) →
        (∀ e ∈ ds, ∀ x, Tch X.K G RG e x → x ≠ a) →
        ∃ W' : Nat → Nat → L2.St → Hp → Prop, (∃ m, W' 0 m σ H1) ∧ ∀ i m σ2 H2, W' i m σ2 H2 →
          (J.stop i H2 ∧ (fun D σ H => D.nx σ H : TS) { D with nx := fun σ3 H3 => tIfS (L2.tB (tCB (rIsi X.K) (tCons (tVar 0) (tCons (tC (.ty "list")) tNil)))) (tDrop (tBM0 X.K "list" rClear (tVar 0))) (fun D σ H => D.nx σ H) D σ3 H3 } σ2 H2) ∨
          (J.go i H2 ∧ ∃ N : L2.St → Hp → Prop, (∀ σ' H', N σ' H' → ∃ m', m' < m ∧ W' (i + 1) m' σ' H') ∧ ∀ x H', J.yld i H2 x H' → gName 1 x σ2 H' fun σ3 H3 => tDrop (tCallS (spE X.K n) (WE W) (tCons (tVar 1) tNil)) { D with nx := N, ct := N, bk := fun σ3 H3 => tIfS (L2.tB (tCB (rIsi X.K) (tCons (tVar 0) (tCons (tC (.ty "list")) tNil)))) (tDrop (tBM0 X.K "list" rClear (tVar 0))) (fun D σ H => D.nx σ H) D σ3 H3 } σ3 H3) := by
      intro ds xs J a hd hx hJ hT
      have hlen := dps_len hx
      refine ⟨fun i m σ2 H2 => EmD X.K G RG d H1 H2 ∧ (∀ x o, H1 x = some o → x = a → H2 x = some o) ∧ σ2[0]? = some (some v) ∧ σ2.length = 2 ∧ m = ds.length - i ∧ i ≤ ds.length, ⟨ds.length, EmD.refl P1, fun _ _ h _ => h, ev, lσ, by simp, Nat.zero_le _⟩, ?_⟩
      rintro i m σ2 H2 ⟨h2, ka, ev2, l2, rfl, hi⟩
      obtain ⟨j1, j2⟩ := hJ H2 h2 ka i
      by_cases hl : i < ds.length
      · obtain ⟨go, yl⟩ := j1 (by omega)
        refine .inr ⟨go, fun σ3 H3 => EmD X.K G RG d H1 H3 ∧ (∀ x o, H1 x = some o → x = a → H3 x = some o) ∧ σ3[0]? = some (some v) ∧ σ3.length = 2, fun σ3 H3 ⟨a1, a2, a3, a4⟩ => ⟨ds.length - (i + 1), by omega, a1, a2, a3, a4, rfl, hl⟩, fun y H3 hy => ?_⟩
        obtain ⟨rfl, ey⟩ := yl y H3 hy
        obtain ⟨e, ee, re⟩ := dps_get hx ey
        have me := List.mem_of_getElem? ee
        obtain ⟨sz, m', em, dm⟩ := hd e me
        have l3 : (σ2.set 1 (some y)).length = 2 := by simpa using l2
        have s1 : (σ2.set 1 (some y))[1]? = some (some y) := List.getElem?_set_self (by omega)
        have s0 : (σ2.set 1 (some y))[0]? = some (some v) := by rw [List.getElem?_set_ne (by omega)]; exact ev2
        refine ⟨y, s1, m', y, e, G, RG, em, dm, rfl, P1.step h2, re, fun H4 h4 => ?_⟩
        exact ⟨h2.trans (h4.up (Nat.le_of_lt sz)), fun x o z w => h4.keep x o (ka x o z w) fun t => hT e me x t w, s0, l3⟩
      · exact .inl ⟨j2 (by omega), two σ2 H2 (D1.trans h2) ev2 l2⟩
    refine ⟨v, ev, ?_⟩
    cases d with
    | none => cases hB
    | bool b => cases hB
    | int b => cases hB
    | str b => cases hB
    | dict b => cases hB
    | list ds =>
      have dl' : ∀ e ∈ ds, sizeOf e < sizeOf (PyData.list ds) ∧ ∃ m, n = m + 1 ∧ dle m e := fun e he => by
        cases n with
        | zero => exact (dl : False).elim
        | succ m => exact ⟨by have := sizeOf_mem he; simp; omega, m, rfl, (show ∀ d ∈ ds, dle m d from dl) e he⟩
      cases id rp with
      | lst hs ha =>
        rename_i a xs
        have hr1 := merge_lst hs
        have hT : ∀ e ∈ ds, ∀ x, Tch X.K G RG e x → x ≠ a := by
          rintro e he x ⟨o, e', _, r', z⟩ rfl
          have := rp_fun _ _ _ r' rp
          cases this
          have := (dl' e he).1
          omega
        rcases P1.rg _ _ hr1 with q | q
        · refine .inl ⟨a, rfl, ⟨xs, .of q⟩, walk (a := a) dl' ha (fun H2 h2 ka i => ?_) hT⟩
          have qa := ka a _ q rfl
          refine ⟨fun hi => ⟨⟨xs, xs[i], .of qa, List.getElem?_eq_getElem hi⟩, fun y H3 hy => ⟨hy.1, hy.2 xs (.of qa)⟩⟩, fun hi => ⟨xs, .of qa, hi⟩⟩
        · refine .inl ⟨a, rfl, ⟨[], .of q⟩, walk (ds := []) (xs := []) (a := a) (fun e he => by cases he) .nil (fun H2 h2 ka i => ?_) (fun e he => by cases he)⟩
          have qa := ka a _ q rfl
          exact ⟨fun hi => by simp at hi, fun hi => ⟨[], .of qa, hi⟩⟩
    | tuple ds =>
      have dl' : ∀ e ∈ ds, sizeOf e < sizeOf (PyData.tuple ds) ∧ ∃ m, n = m + 1 ∧ dle m e := fun e he => by
        cases n with
        | zero => exact (dl : False).elim
        | succ m => exact ⟨by have := sizeOf_mem he; simp; omega, m, rfl, (show ∀ d ∈ ds, dle m d from dl) e he⟩
      cases id rp with
      | tup hs ha =>
        rename_i a xs
        have ht := merge_tup P.ls hs
        refine .inr ⟨a, rfl, ⟨xs, .of (P1.tg _ _ ht)⟩, walk (a := a) dl' ha (fun H2 h2 ka i => ?_) (fun e he x t z => ?_)⟩
        · have qa := (P1.step h2).tg _ _ ht
          exact ⟨fun hi => ⟨⟨xs, xs[i], .of qa, List.getElem?_eq_getElem hi⟩, fun y H3 hy => ⟨hy.1, hy.2 xs (.of qa)⟩⟩, fun hi => ⟨xs, .of qa, hi⟩⟩
        · subst z
          obtain ⟨o, e', r, _⟩ := t
          obtain ⟨ys, rfl⟩ := P.ls _ _ r
          have h1 := P.tg _ _ ht
          rcases P.rg _ _ r with q | q <;> rw [q] at h1 <;> cases h1
end
theorem cale_of {P : Program} {w : World} {K : PySem.W.Frag} {mg : Str → Option Value} {base : Heap} {x xn : Str} {k n : Nat} {N : List Str} {st : Stmt} (h : Wr K mg x st [xn]) (S : FnScope N [xn] (defScope st)) (hN : N.length = 2)
    (hb : ∀ (f : Addr) (cdv : Value) (A : Around) (outer : List Env) (s : Shared) (H : Hp) (E : XK) (d : PyData), RoomG k (A.deeper (envOfC x (defScope st) s.heap.objs.size f cdv)) →
      PSs (cxOf (L2.CX P w) P w K mg base N x (defScope st) f cdv A outer s H E) (defBody st) (tEm K n d false)) : CalE P w K mg base x (k + 1) [xn] (n + 1) := by
  obtain ⟨f, fd, F, g, b⟩ := h
  refine ⟨f, fd, ?_, g, F.kp, b⟩
  refine okG F S (fun vs H Q E h => ?_) fun cdv A outer s H vs Q E hr h => ?_
  · obtain ⟨n', v, d, G, RG, _, _, rfl, _⟩ := h; rfl
  · obtain ⟨n', v, d, G, RG, e, dl, rfl, P1, rp, q⟩ := h
    cases e
    refine ⟨_, hb f cdv A outer s H E d hr, v, G, RG, ?_, ?_, dl, P1, rp, fun z => (by cases z), fun σ' H' h1 _ _ => q H' h1⟩
    · simp [L2.start]
    · simp [L2.start, hN]
theorem cale_zero {P : Program} {w : World} {K : PySem.W.Frag} {mg : Str → Option Value} {base : Heap} {x xn : Str} {k : Nat} {N : List Str} {st : Stmt} (h : Wr K mg x st [xn]) (S : FnScope N [xn] (defScope st)) : CalE P w K mg base x (k + 1) [xn] 0 := by
  obtain ⟨f, fd, F, g, b⟩ := h
  refine ⟨f, fd, okG F S (fun vs H Q E h => ?_) fun cdv A outer s H vs Q E hr h => ?_, g, F.kp, b⟩
  · obtain ⟨n', v, d, G, RG, e, _⟩ := h; cases e
  · obtain ⟨n', v, d, G, RG, e, _⟩ := h; cases e
section
variable {X : Cx} {cl : String → Addr} {W : WX} {x e y : Expr} {pos : Pos} {j : Nat}
theorem m_emptied {k m : Nat} {fn xn : Str} {p q : Pos} (h : CalE X.prog X.w X.K X.mg X.base fn k [xn] (m + 1)) (hr : RoomG k X.A) (hx : ∀ σ, PassesAt (L2.CX X.prog X.w) X σ (WE W σ)) (hv : PE X x (tVar j)) (hg : Gl X fn := by rfl) (hdb : (fn == ("__debug__" : Str)) = false := by decide)
    (he : starEach [x] X.env = (false, eval x X.env) :: starEach [] X.env := by rfl) (hpl : (backTo q (starEach [] X.env)).any (·.1) = false := by rfl) (hs : swapsWith (.Call (.Name fn p) [x] [] q) none pos.line X.env = pure false := by rfl) :
    PS X (.Expr (.Call (.Name fn p) [x] [] q) pos) (tM X.K j [j] (fun d _ => dle m d)) := by
  obtain ⟨f, fd, ok, g, kp, b⟩ := h
  refine ps_imp (ps_expr (pe_callG (E := WE W) ok hr hg g kp b hx (pa_cons hv pa_nil he) hdb he hpl) hs) fun D σ H ⟨Gb, sb, σb, Hb, G, s, v, d, RG, N, td, nx⟩ => ?_
  refine ⟨v, N.ej, m, v, d, G, RG, rfl, td, rfl, ⟨N.ls, fun x o e => N.sa.gh x o (cut_ex x o e), fun x o e => .inl (N.rg x o e).1⟩, N.rp, fun H2 h2 => ?_⟩
  exact nx σ H2 ⟨fun x o e n => h2.keep x o e (fun ⟨o', _, r, _⟩ => by rw [n] at r; exact nomatch r), h2.dom⟩ rfl fun _ _ => rfl
end
end DL

/-! DL62: rows for simp, for slots whose lists are one's own -/
noncomputable section
namespace DL
open PySem L2 PyProof.Rows
open Evl (Ex)
theorem sn_nev {X : Cx} {cl : String → Addr} {W : WX} {H0 : Hp} {sts : List Stmt} : PSs X sts (tSn X.K cl W H0 fnever) := ⟨fun _ _ _ _ _ _ ⟨_, _, _, _, h⟩ => h.elim⟩
section
variable {α : Type} {s s1 s2 : DSt} {d e : PyData} {ds es : List PyData} {j k i : Nat} {js : List Nat} {p q : DSt → Flow} {f : M R} {l m : List Sl} {x y : Sl} {w w' : Pw} {z : Exn} {r : R} {rs : List R}
@[simp] theorem lf_non : lf .none = true := Eq.trans rfl rfl
@[simp] theorem lf_int {n : Int} : lf (.int n) = true := Eq.trans rfl rfl
@[simp] theorem lf_bool {b : Bool} : lf (.bool b) = true := Eq.trans rfl rfl
@[simp] theorem lf_str {b : Str} : lf (.str b) = true := Eq.trans rfl rfl
@[simp] theorem lf_tup : lf (.tuple ds) = lfs ds := Eq.trans rfl rfl
@[simp] theorem lf_lst : lf (.list ds) = false := Eq.trans rfl rfl
@[simp] theorem lfs_nil : lfs [] = true := Eq.trans rfl rfl
@[simp] theorem lfs_cons : lfs (d :: ds) = (lf d && lfs ds) := Eq.trans rfl rfl
theorem lfs_all : lfs ds = true ↔ ∀ d ∈ ds, lf d = true := by
  induction ds with
  | nil => simp
  | cons d ds ih => rw [lfs_cons, Bool.and_eq_true, ih]; simp
@[simp] theorem lfs_map {β : Type} {g : β → PyData} {l : List β} : lfs (l.map g) = true ↔ ∀ b ∈ l, lf (g b) = true := by rw [lfs_all]; simp
@[simp] theorem lfs_app : lfs (ds ++ es) = true ↔ lfs ds = true ∧ lfs es = true := by
  rw [lfs_all, lfs_all, lfs_all]
  constructor
  · exact fun h => ⟨fun x hx => h x (List.mem_append_left _ hx), fun x hx => h x (List.mem_append_right _ hx)⟩
  · rintro ⟨h1, h2⟩ x hx
    rcases List.mem_append.mp hx with hx | hx
    · exact h1 x hx
    · exact h2 x hx
@[simp] theorem okTs_nn : okTs [] [] ↔ True := Iff.rfl
@[simp] theorem okTs_cc : okTs (x :: l) (y :: m) ↔ okTs1 x y ∧ okTs l m := Iff.rfl
@[simp] theorem okTs_no : okTs1 .no y ↔ y = .no := Iff.rfl
@[simp] theorem okTs_val : okTs1 (.val d) (.val e) ↔ e = d := by
  show (Sl.val e = Sl.val d) ↔ _
  constructor
  · intro h; cases h; rfl
  · intro h; rw [h]
@[simp] theorem okTs_raw {u v : V} : okTs1 (.raw u) (.raw v) ↔ v = u := by
  show (Sl.raw v = Sl.raw u) ↔ _
  constructor
  · intro h; cases h; rfl
  · intro h; rw [h]
@[simp] theorem okTs_ob {u v : OD} : okTs1 (.ob u) (.ob v) ↔ v = u := by
  show (Sl.ob v = Sl.ob u) ↔ _
  constructor
  · intro h; cases h; rfl
  · intro h; rw [h]
@[simp] theorem okTs_own : okTs1 (.own ds) (.own es) ↔ lfs ds = true ∧ lfs es = true := by
  constructor
  · rintro ⟨h, ⟨es', e, h2⟩ | e⟩
    · cases e; exact ⟨h, h2⟩
    · cases e
  · exact fun h => ⟨h.1, .inl ⟨es, rfl, h.2⟩⟩
@[simp] theorem okTs_frz : okTs1 (.own ds) (.val (.list es)) ↔ lfs ds = true ∧ es = ds := by
  constructor
  · rintro ⟨h, ⟨es', e, h2⟩ | e⟩
    · cases e
    · cases e; exact ⟨h, rfl⟩
  · rintro ⟨h, rfl⟩; exact ⟨h, .inr rfl⟩
@[simp] theorem x_fUB {g : DSt → Flow} : fUB j js f g s = kUB j g (frzS js s) (f (frzS js s)) := Eq.trans rfl rfl
@[simp] theorem y_kUB_v {g : DSt → Flow} : kUB j g s (.ok (.val d) s1) = if okTs (putS j .no s).d (putS j .no s1).d ∧ j < s1.d.length then g (putS j (.val d) s1) else .stuck := Eq.trans rfl rfl
@[simp] theorem y_kUB_n {g : DSt → Flow} : kUB j g s (.ok (.new ds) s1) = if okTs (putS j .no s).d (putS j .no s1).d ∧ j < s1.d.length then g (putS j (.val (.list ds)) s1) else .stuck := Eq.trans rfl rfl
@[simp] theorem y_kUB_e {g : DSt → Flow} : kUB j g s (.err z s1) = .err z s1 := Eq.trans rfl rfl
@[simp] theorem y_onU {g : α → DSt → Flow} {a : α} : onU s (.ok a s1) g = if okTs s.d s1.d then g a s1 else .stuck := Eq.trans rfl rfl
@[simp] theorem y_onUe {g : α → DSt → Flow} : onU s (.err z s1) g = .err z s1 := Eq.trans rfl rfl
def andU (x : Flow) (q : DSt → Flow) : Flow := match x with
  | .next s => q s
  | .ret r s => .ret r s
  | .err y s => .err y s
  | _ => .stuck
@[simp] theorem au_next : andU (.next s) q = q s := Eq.trans rfl rfl
@[simp] theorem au_ret : andU (.ret r s) q = .ret r s := Eq.trans rfl rfl
@[simp] theorem au_err : andU (.err z s) q = .err z s := Eq.trans rfl rfl
@[simp] theorem x_fseqU : fseqU p q s = andU (p s) q := by unfold fseqU andU; cases p s <;> rfl
@[simp] theorem x_fUEnd : fUEnd js q s = q (noS js s) := Eq.trans rfl rfl
@[simp] theorem x_noS : noS js s = ⟨blank js s.d, s.w⟩ := Eq.trans rfl rfl
@[simp] theorem x_blank0 {l : List Sl} : blank [] l = l := Eq.trans rfl rfl
@[simp] theorem x_blank1 {l : List Sl} : blank (i :: js) l = blank js (l.set i .no) := Eq.trans rfl rfl
def kUIf (p : DSt → Flow) (s0 : DSt) (b : Bool) (s1 : DSt) : Flow := if b = true then noGo (p s1) else if okTs s0.d s1.d then .next s1 else .stuck
@[simp] theorem y_kUIf {b : Bool} : kUIf p s b s1 = if b = true then noGo (p s1) else if okTs s.d s1.d then .next s1 else .stuck := Eq.trans rfl rfl
@[simp] theorem x_uIf {t : M Bool} : uIf t p s = onRes (t s) (kUIf p s) := by
  unfold uIf onRes kUIf
  cases t s with
  | ok b s1 => cases b <;> rfl
  | _ => rfl
@[simp] theorem ng_ret : noGo (.ret r s) = .ret r s := Eq.trans rfl rfl
@[simp] theorem ng_err : noGo (.err z s) = .err z s := Eq.trans rfl rfl
def kUIfU (p q : DSt → Flow) (b : Bool) (s1 : DSt) : Flow := if b = true then p s1 else q s1
@[simp] theorem y_kUIfU {b : Bool} : kUIfU p q b s1 = if b = true then p s1 else q s1 := Eq.trans rfl rfl
@[simp] theorem x_uIfU {t : M Bool} : uIfU t p q s = onU s (t s) (kUIfU p q) := Eq.trans rfl rfl
def kUExp (r : R) (s1 : DSt) : Flow := .next s1
@[simp] theorem y_kUExp : kUExp r s1 = .next s1 := Eq.trans rfl rfl
@[simp] theorem x_uExp : uExp f s = onU s (f s) kUExp := Eq.trans rfl rfl
@[simp] theorem x_uRet : uRet f s = noGo (fRet f s) := Eq.trans rfl rfl
@[simp] theorem x_uSet : uSet k f s = onU s (f s) (kUSet k) := Eq.trans rfl rfl
@[simp] theorem y_kUSet_v : kUSet k (.val d) s1 = if k < s1.d.length then (if lf d = true then .next (putS k (.val d) s1) else .stuck) else .stuck := Eq.trans rfl rfl
@[simp] theorem y_kUSet_n : kUSet k (.new ds) s1 = if k < s1.d.length then (if lfs ds = true then .next (putS k (.own ds) s1) else .stuck) else .stuck := Eq.trans rfl rfl
@[simp] theorem y_kUSet_o {kvs : List (List Key × PyData)} : kUSet k (.ob (.dictT kvs)) s1 = if k < s1.d.length then (if lfk kvs = true then .next (putS k (.ob (.dictT kvs)) s1) else .stuck) else .stuck := Eq.trans rfl rfl
@[simp] theorem x_uSetC : uSetC k f s = onU s (f s) (kUSetC k) := Eq.trans rfl rfl
@[simp] theorem y_kUSetC_v : kUSetC k (.val d) s1 = if k < s1.d.length then .next (putS k (.val d) s1) else .stuck := Eq.trans rfl rfl
@[simp] theorem y_kUSetC_n : kUSetC k (.new ds) s1 = if k < s1.d.length then .next (putS k (.val (.list ds)) s1) else .stuck := Eq.trans rfl rfl
@[simp] theorem x_uFor {fi : M (List PyData)} {b : Bd} : uFor js fi b p s = onU s (fi s) (loopU js b p) := Eq.trans rfl rfl
@[simp] theorem x_jsLf0 : jsLf [] l ↔ True := Iff.rfl
@[simp] theorem x_jsLf1 : jsLf (i :: js) l ↔ (match l[i]? with | some (.val x) => lf x = true | some .no => True | _ => False) ∧ jsLf js l := Iff.rfl
def ifP {β : Type} (t : Prop) (a b : β) : β := @ite _ t (Classical.propDecidable _) a b
theorem ifP_pos {β : Type} {t : Prop} {a b : β} (h : t) : ifP t a b = a := if_pos h
@[simp] theorem x_fUMut {t : PyData → DSt → Prop} : fUMut t j js q s = (match s.d[j]? with
  | some (.val d) => ifP (t d s) (q (noS js s)) .stuck
  | _ => .stuck) := Eq.trans rfl rfl
def onFP (t : R → Prop) (x : FRes) (s : DSt) : Res R := match x with
  | .ok r w => ifP (t r) (.ok r ⟨s.d, w⟩) .stuck
  | .err y w => .err y ⟨s.d, w⟩
  | .stuck => .stuck
@[simp] theorem y_onFP {t : R → Prop} {r : R} {w : Pw} : onFP t (.ok r w) s = ifP (t r) (.ok r ⟨s.d, w⟩) .stuck := Eq.trans rfl rfl
@[simp] theorem y_onFPe {t : R → Prop} {w : Pw} : onFP t (.err z w) s = .err z ⟨s.d, w⟩ := Eq.trans rfl rfl
def kUserO (F : List R → Pw → FRes) (rs : List R) (s : DSt) : Res R := onFP nestR (F rs s.w) s
@[simp] theorem y_kUserO {F : List R → Pw → FRes} : kUserO F rs s = onFP nestR (F rs s.w) s := Eq.trans rfl rfl
@[simp] theorem x_fUserO {F : List R → Pw → FRes} {fs : M (List R)} : fUserO F fs s = (fs s).bind (kUserO F) := by
  unfold fUserO
  rw [bnd_app]
  cases fs s with
  | ok rs s1 =>
    show (match F rs s1.w with | .ok r w' => _ | .err x w' => _ | .stuck => _) = onFP nestR (F rs s1.w) s1
    cases F rs s1.w <;> rfl
  | _ => rfl
def kUserN (F : List R → Pw → FRes) (rs : List R) (s : DSt) : Res R := ifP (okAr rs) (onFP (unlR rs) (F rs s.w) s) .stuck
@[simp] theorem y_kUserN {F : List R → Pw → FRes} : kUserN F rs s = ifP (okAr rs) (onFP (unlR rs) (F rs s.w) s) .stuck := Eq.trans rfl rfl
@[simp] theorem x_fUserN {F : List R → Pw → FRes} {fs : M (List R)} : fUserN F fs s = (fs s).bind (kUserN F) := by
  unfold fUserN
  rw [bnd_app]
  cases fs s with
  | ok rs s1 =>
    show (match F rs s1.w with | .ok r w' => _ | .err x w' => _ | .stuck => _) = ifP (okAr rs) (onFP (unlR rs) (F rs s1.w) s1) .stuck
    unfold ifP
    cases F rs s1.w with
    | ok r w' =>
      by_cases h : okAr rs
      · rw [if_pos h]
        show (@ite _ (unlR rs r ∧ okAr rs) (Classical.propDecidable _) _ _) = ifP _ _ _
        unfold ifP
        by_cases h2 : unlR rs r
        · rw [if_pos ⟨h2, h⟩, if_pos h2]
        · rw [if_neg fun z => h2 z.1, if_neg h2]
      · rw [if_neg h]
        show (@ite _ (unlR rs r ∧ okAr rs) (Classical.propDecidable _) _ _) = _
        rw [if_neg fun z => h z.2]
    | err y w' => rfl
    | stuck =>
      by_cases h : okAr rs
      · rw [if_pos h]; rfl
      · rw [if_neg h]
  | _ => rfl

@[simp] theorem x_okAr0 : okAr [] ↔ True := Iff.rfl
@[simp] theorem x_okAr1 : okAr (.val d :: rs) ↔ okAr rs := Iff.rfl
@[simp] theorem ifP_true {β : Type} {a b : β} : ifP True a b = a := ifP_pos trivial
def kIsi2 (n m : String) (r : R) (s : DSt) : Res R := match look r s with
  | some d => .ok (.val (.bool (isT n d || isT m d))) s
  | none => .stuck
@[simp] theorem y_kIsi2 {n m : String} : kIsi2 n m r s = (match look r s with | some d => .ok (.val (.bool (isT n d || isT m d))) s | none => .stuck) := Eq.trans rfl rfl
@[simp] theorem x_fIsi2 {n m : String} : fIsi2 n m f s = (f s).bind (kIsi2 n m) := Eq.trans rfl rfl
def kLfO (r : R) (s : DSt) : Res R := match r with
  | .val d => if lf d = true then .ok (.val d) s else .stuck
  | .new ds => if lfs ds = true then .ok (.new ds) s else .stuck
  | _ => .stuck
@[simp] theorem y_kLfO_v : kLfO (.val d) s = if lf d = true then .ok (.val d) s else .stuck := Eq.trans rfl rfl
@[simp] theorem y_kLfO_n : kLfO (.new ds) s = if lfs ds = true then .ok (.new ds) s else .stuck := Eq.trans rfl rfl
@[simp] theorem x_fLfO : fLfO f s = (f s).bind kLfO := Eq.trans rfl rfl
def kTupN (r : R) (s : DSt) : Res R := match r with
  | .new ds => .ok (.val (.tuple ds)) s
  | _ => .stuck
@[simp] theorem y_kTupN : kTupN (.new ds) s = .ok (.val (.tuple ds)) s := Eq.trans rfl rfl
@[simp] theorem x_fTupN : fTupN f s = (f s).bind kTupN := Eq.trans rfl rfl
end
end DL

/-! DL63: a list within what was told is made longer, then the rest -/
noncomputable section
namespace DL
open PySem L2 PyProof.Rows
open Evl (Ex)
def pthA (k : Nat) (d : PyData) : Prop := ∃ ds es, d = .tuple ds ∧ ds[k]? = some (.list es) ∧ ltS es.length
def allA (d : PyData) : Prop := ∃ ds, d = .tuple ds ∧ ∀ es, PyData.list es ∈ ds → es.length + ds.length < 100000
section
variable {K : PySem.W.Frag} {j : Nat} {Gb Hb G H RG : Hp} {sb s : DSt} {σb σ : L2.St} {v : V} {d : PyData}
theorem UA.tup {ds : List PyData} (N : UA K j Gb sb σb Hb G s σ H v (.tuple ds) RG) : ∃ a xs, v = .ref a ∧ G a = some (.tup xs) ∧ H a = some (.tup xs) ∧ RpAll K (mergeG RG (tupG G)) xs ds := by
  have r := N.rp
  cases r with
  | tup hs ha =>
    have h := merge_tup N.ls hs
    have h2 := cut_ex _ _ h
    exact ⟨_, _, rfl, h2, N.sa.gh _ _ h2, ha⟩
theorem FrG.upd {b : Addr} {o o' : HO} (h : RG b = some o) (n : H b ≠ none) : FrG RG H (upd H b o') := ⟨fun x u e q => by rw [upd_ne fun z => by subst z; rw [h] at q; cases q]; exact e, fun x e => by
  by_cases z : x = b
  · subst z; rw [upd_same]; simp
  · rw [upd_ne z]; exact e⟩
end
section
variable {X : Cx} {cl : String → Addr} {W : WX} {x e : Expr} {pos : Pos} {j : Nat}
end
end DL

/-! DL86: texts: join, the signs of a text, a sign in a text, int of a text -/
noncomputable section
namespace DL
open PySem L2 PyProof.Rows
open Evl (Ex)
/-! ### join -/
def strsD : List PyData → Option (List Str)
  | [] => some []
  | .str x :: ds => (strsD ds).map (x :: ·)
  | _ :: _ => none
@[simp] theorem strsD_map {ys : List Str} : strsD (ys.map .str) = some ys := by
  induction ys with
  | nil => rfl
  | cons y ys ih => simp [strsD, ih]
theorem strs_rp {K : PySem.W.Frag} {G : Hp} : ∀ {ds : List PyData} {xs : List V} {ys : List Str}, RpAll K G xs ds → strsD ds = some ys → xs = ys.map V.str
  | [], _, ys, h, e => by
    cases h
    cases e
    rfl
  | d :: ds, _, ys, h, e => by
    cases h with
    | cons h1 h2 =>
      cases d with
      | str x =>
        cases q : strsD ds with
        | none => simp [strsD, q] at e
        | some zs =>
          simp [strsD, q] at e
          subst e
          cases h1
          rw [strs_rp h2 q]
          rfl
      | _ => simp [strsD] at e
def leJ (a : Str) (ys : List Str) : Prop := (ys.map (·.length)).sum + ys.length * a.length ≤ 16777216
instance (a : Str) (ys : List Str) : Decidable (leJ a ys) := Classical.propDecidable _
def kJoinB (a : Str) (y : R) (s : DSt) : Res R := match look y s with
  | some (.list ds) => (match strsD ds with
    | some ys => if leJ a ys then .ok (.val (.str (Txt.join a ys))) s else .stuck
    | none => .stuck)
  | _ => .stuck
@[simp] theorem y_kJoinB (a : Str) (y : R) (s : DSt) : kJoinB a y s = (match look y s with
  | some (.list ds) => (match strsD ds with
    | some ys => if leJ a ys then .ok (.val (.str (Txt.join a ys))) s else .stuck
    | none => .stuck)
  | _ => .stuck) := Eq.trans rfl rfl
def kJoinA (g : M R) (x : R) (s : DSt) : Res R := match look x s with
  | some (.str a) => (g s).bind (kJoinB a)
  | _ => .stuck
@[simp] theorem y_kJoinA {g : M R} {a : Str} {s : DSt} : kJoinA g (.val (.str a)) s = (g s).bind (kJoinB a) := Eq.trans rfl rfl
def fJoin (f g : M R) : M R := bnd f (kJoinA g)
@[simp] theorem x_join {f g : M R} {s : DSt} : fJoin f g s = (f s).bind (kJoinA g) := Eq.trans rfl rfl
section
variable {X : Cx} {cl : String → Addr} {W : WX} {a b e : Expr} {f g : M R} {pos : Pos}
theorem d_join {apos : Pos} (ha : DE X cl W a f) (hb : DE X cl W b g) (hs : starEach [b] X.env = [(false, eval b X.env)] := by rfl) (hbase : attributeBase a "join" X.env (eval a X.env) = eval a X.env := by rfl) (hline : (apos.endLine == pos.line) = true := by rfl) :
    DE X cl W (.Call (.Attribute a "join" apos) [b] [] pos) (fJoin f g) := by
  refine pe_imp (pe_join ha hb hs hbase hline) fun σ H Q ⟨G, s, S, q⟩ => ?_
  refine ⟨G, s, S, out_mono (out_bind q) fun r G1 s1 H1 st1 S1 k1 v rr => ?_⟩
  unfold kJoinA at k1
  split at k1
  · rename_i x e1
    obtain rfl := dq_str (look_q S1 rr e1)
    refine ⟨⟨x, rfl⟩, G1, s1, S1, out_mono (out_bind k1) fun r2 G2 s2 H2 st2 S2 k2 u ru => ?_⟩
    unfold kJoinB at k2
    split at k2
    · rename_i ds e2
      obtain ⟨p, xs, rfl, hp, hx⟩ := dq_lst (look_q S2 ru e2)
      split at k2
      · rename_i ys e3
        split at k2
        · rename_i hl
          obtain rfl := strs_rp hx e3
          exact ⟨x, p, ys, rfl, rfl, .inl (.of hp), hl, k2 _ _ Stp.refl S2 _ (.str _)⟩
        · exact k2.elim
      · exact k2.elim
    · exact k2.elim
  · exact k1.elim
end
/-! ### the signs of a text -/
def sgnD (x : Str) : List PyData := x.cps.toList.map fun c => PyData.str ⟨#[c]⟩
theorem it_str {K : PySem.W.Frag} {G : Hp} {x : Str} : ItOk K (Its x) (sgnD x) G := by
  intro G' s' σ' H' ex S i
  refine ⟨fun d e => ?_, fun hl => ?_⟩
  · unfold sgnD at e
    rw [List.getElem?_map] at e
    cases q : x.cps.toList[i]? with
    | none => rw [q] at e; cases e
    | some c =>
      rw [q] at e
      have e2 : d = .str ⟨#[c]⟩ := (Option.some.inj e).symm
      subst e2
      have hi : i < x.cps.size := by
        have := (List.getElem?_eq_some_iff.mp q).1
        simpa using this
      refine ⟨hi, fun v H2 ⟨h1, c', h2, h3⟩ => ?_⟩
      subst h1 h3
      have : x.cps[i]? = some c := by rw [← Array.getElem?_toList]; exact q
      rw [this] at h2
      cases h2
      exact ⟨G', Stp.refl, S, .str _⟩
  · show x.cps.size ≤ i
    unfold sgnD at hl
    rw [List.length_map] at hl
    simpa using hl
def kStrI (r : R) (s : DSt) : Res (List PyData) := match look r s with
  | some (.str x) => .ok (sgnD x) s
  | _ => .stuck
def fStrI (f : M R) : M (List PyData) := bnd f kStrI
@[simp] theorem x_strI {f : M R} {s : DSt} : fStrI f s = (f s).bind kStrI := Eq.trans rfl rfl
@[simp] theorem y_kStrI (r : R) (s : DSt) : kStrI r s = (match look r s with | some (.str x) => .ok (sgnD x) s | _ => .stuck) := Eq.trans rfl rfl
section
variable {X : Cx} {cl : String → Addr} {W : WX} {a b e tg : Expr} {f g : M R} {pos : Pos}
theorem i_str (h : DE X cl W e f) : DI X cl W tg e (fStrI f) := by
  refine pi_imp (pi_str h) fun σ H R ⟨G, s, S, q⟩ => ?_
  refine ⟨G, s, S, out_mono (out_bind q) fun r G1 s1 H1 st1 S1 k v rr => ?_⟩
  unfold kStrI at k
  split at k
  · rename_i x e1
    obtain rfl := dq_str (look_q S1 rr e1)
    exact ⟨x, rfl, k G1 H1 Stp.refl S1 _ it_str⟩
  · exact k.elim
end
/-! ### a sign in a text -/
def sgO (neg : Bool) (d e : PyData) : Option R := match d, e with
  | .str y, .str z => (match y.cps.toList with
    | [c] => some (.val (.bool (neg != decide (c ∈ z.cps.toList))))
    | _ => none)
  | _, _ => none
@[simp] theorem x_sgO {neg : Bool} {c : Nat} {z : Str} : sgO neg (.str ⟨#[c]⟩) (.str z) = some (.val (.bool (neg != decide (c ∈ z.cps.toList)))) := Eq.trans rfl rfl
def rSg (neg : Bool) : R2 := fun x y H Q => ∃ c z, x = .str ⟨#[c]⟩ ∧ y = .str z ∧ Q (.bl (neg != decide (c ∈ z.cps.toList))) H
section
variable {X : Cx}
theorem op_sgIn : OpR X (compareOp .In) (rSg false) := by
  intro pins s σ H x y v u Q I rx ry ⟨c, z, h1, h2, q⟩
  exact op_in_sign pins s σ H x y v u Q I rx ry ⟨c, z, h1, h2, by simpa using q⟩
end
theorem opd_sg {K : PySem.W.Frag} {neg : Bool} : OpD K (rSg neg) (sgO neg) := by
  intro G H x y d e r Q ex hx hy ho k
  unfold sgO at ho
  split at ho
  · rename_i y' z
    split at ho
    · rename_i c ec
      cases ho
      obtain rfl := dq_str hx
      obtain rfl := dq_str hy
      have : y' = ⟨#[c]⟩ := by
        cases y' with
        | mk a =>
          congr 1
          exact Array.toList_inj.mp ec
      subst this
      exact ⟨c, z, rfl, rfl, k.1 _ (.bl _)⟩
    · cases ho
  · cases ho
section
variable {X : Cx} {cl : String → Addr} {W : WX} {a b : Expr} {f g : M R} {pos : Pos}
theorem d_sgIn (hm : behindInMarks .In b = false) (ha : DE X cl W a f) (hb : DE X cl W b g) : DE X cl W (.Compare a [.In] [b] pos) (fOp (lift2 (sgO false)) f g) := d_op2 (fun h1 h2 => pe_cmpR op_sgIn h1 h2 hm) (ops_lift opd_sg) ha hb
end
/-! ### int of a text -/
def intTO : List PyData → Option R
  | [.str x] => (match PySem.intText? x with
    | some n => if x.length ≤ 640 then some (.val (.int n)) else none
    | none => none)
  | _ => none
theorem cd_intT {K : PySem.W.Frag} : CallD K (fun xs H Q => ∃ a n, xs = [V.str a] ∧ PySem.intText? a = some n ∧ a.length ≤ 640 ∧ Q (.int n) H) intTO := by
  intro G H vs ds r' Q ex hv ho k
  unfold intTO at ho
  split at ho
  · rename_i x
    split at ho
    · rename_i n en
      split at ho
      · rename_i hl
        cases ho
        cases hv with
        | cons h t =>
          cases t
          obtain rfl := dq_str h
          exact ⟨x, n, rfl, en, hl, k.1 _ (.int _)⟩
      · cases ho
    · cases ho
  · cases ho
end DL

noncomputable section
namespace DL
open PySem L2
def b_law_purse_1 : DSt → Flow := fIfS (fB (fOp (lift2 geO) (fCall absO (pCons (fOp (lift2 ixO) (fVar 1) (fVar 2)) fNil)) (fOp (lift2 powO) (fC (.int 10)) (fC (.int 18))))) (fSetIx 1 (fOp (lift2 modO) (fOp (lift2 ixO) (fVar 1) (fVar 2)) (fOp (lift2 powO) (fOp (lift2 powO) (fC (.int 10)) (fC (.int 60))) (fC (.int 20)))) (fVar 2)) fnext
abbrev o_law_purse_1 : List PyData → DSt → Flow := loopF (bName 2) b_law_purse_1
def p_law_purse : DSt → Flow := fseq (fFor (fRng1 (pCons (fCall lenO (pCons (fVar 1) fNil)) fNil)) (bName 2) b_law_purse_1) (fseq (fIfS (fB (fOp (lift2 eqO) (fVar 1) (fLst fNil))) (fSet 1 (fLst (fCons (fC (.int 0)) fNil))) fnext) (fRet (fLst (fCons (fVar 1) (fCons (fC (.int 0)) fNil)))))
def F_law_purse : List R → Pw → FRes := runF 3 1 p_law_purse
def p_law_draw : DSt → Flow := fseq (fUnP 0 2 3) (fseq (fSet 4 (fOp (lift2 modO) (fVar 3) (fLenC 2))) (fseq (fSet 5 (fIxC 2 (fVar 4))) (fseq (fSetT 0 (fOp (lift2 addO) (fVar 3) (fC (.int 1)))) (fseq (fIfS (fB (fOp (lift2 geO) (fVar 5) (fOp (lift2 powO) (fC (.int 10)) (fC (.int 18))))) (fseq (fSetC 2 (fOp (lift2 fdivO) (fVar 5) (fVar 1)) (fVar 4)) (fRet (fOp (lift2 modO) (fVar 5) (fVar 1)))) fnext) (fseq (fSet 6 (fOp (lift2 modO) (fOp (lift2 addO) (fOp (lift2 addO) (fOp (lift2 mulO) (fOp (lift2 modO) (fVar 5) (fC (.int 2147483629))) (fC (.int 48271))) (fOp (lift2 mulO) (fOp (lift2 mulO) (fVar 3) (fVar 3)) (fC (.int 69621)))) (fC (.int 11))) (fC (.int 2147483647)))) (fseq (fSet 6 (fOp (lift2 modO) (fOp (lift2 mulO) (fVar 6) (fVar 6)) (fC (.int 2147483629)))) (fseq (fSet 6 (fOp (lift2 modO) (fOp (lift2 mulO) (fVar 6) (fVar 6)) (fC (.int 2147483587)))) (fseq (fIfS (fB (fOp (lift2 gtO) (fVar 1) (fOp (lift2 powO) (fC (.int 10)) (fC (.int 9))))) (fseq (fSet 7 (fOp (lift2 modO) (fOp (lift2 addO) (fOp (lift2 addO) (fOp (lift2 mulO) (fVar 6) (fC (.int 39373))) (fOp (lift2 mulO) (fVar 3) (fC (.int 7919)))) (fC (.int 500))) (fC (.int 2147483629)))) (fSet 6 (fOp (lift2 mulO) (fVar 6) (fOp (lift2 addO) (fOp (lift2 mulO) (fOp (lift2 mulO) (fVar 7) (fVar 7)) (fVar 7)) (fC (.int 1)))))) fnext) (fRet (fOp (lift2 modO) (fVar 6) (fVar 1)))))))))))
def F_law_draw : List R → Pw → FRes := runF 8 2 p_law_draw
def WP (pa : Addr) (w : Pw) (m : Int) : Prop := ∃ (ca : Addr) (cells : List Int) (t : Int), pa ≠ ca ∧ w = some (pa, ca, cells, t) ∧ cells ≠ [] ∧ 0 ≤ t ∧ t ≤ m
theorem WP.mono {pa : Addr} {w : Pw} {m m' : Int} (h : WP pa w m) (h2 : m ≤ m') : WP pa w m' := by
  obtain ⟨ca, cells, t, ne, e, hc, t0, tm⟩ := h
  exact ⟨ca, cells, t, ne, e, hc, t0, by omega⟩
theorem z18 :  powO (.int 10) (.int 18) = some (.val (.int 1000000000000000000)) := by
    simp
end DL

noncomputable section
namespace DL
open PySem L2
def c_law_mixed_1 : M Bool := fB (fOp (lift2 neO) (fVar 2) (fLst fNil))
def b_law_mixed_2 : DSt → Flow := fDrop (fApp 3 (fPopAt 2 (fUser F_law_draw (fCons (fVar 0) (fCons (fCall lenO (pCons (fVar 2) fNil)) fNil)))))
abbrev o_law_mixed_2 : DSt → Flow := whileF c_law_mixed_1 b_law_mixed_2 10000
def p_law_mixed : DSt → Flow := fseq (fSet 2 (fCall listO (pCons (fVar 1) fNil))) (fseq (fSet 3 (fLst fNil)) (fseq (whileF c_law_mixed_1 b_law_mixed_2 10000) (fRet (fVar 3))))
def F_law_mixed : List R → Pw → FRes := runF 4 2 p_law_mixed
def b_law_names_1 : DSt → Flow := fseq (fSet 5 (fLst (fCons (fC (.int 1)) (fCons (fOp (lift2 addO) (fC (.int 1)) (fUser F_law_draw (fCons (fVar 0) (fCons (fC (.int 3)) fNil)))) (fCons (fOp (lift2 addO) (fC (.int 1)) (fUser F_law_draw (fCons (fVar 0) (fCons (fOp (lift2 powO) (fC (.int 10)) (fC (.int 28))) fNil)))) fNil))))) (fseq (fSet 3 (fOp (lift2 addO) (fVar 3) (fOp (lift2 ixO) (fVar 5) (fOp (lift2 fdivO) (fUser F_law_draw (fCons (fVar 0) (fCons (fC (.int 6)) fNil))) (fC (.int 2)))))) (fDrop (fApp 2 (fVar 3))))
abbrev o_law_names_1 : List PyData → DSt → Flow := loopF (bName 4) b_law_names_1
def p_law_names : DSt → Flow := fseq (fSet 2 (fLst fNil)) (fseq (fSet 3 (fUn (lift1 negO) (fC (.int 1)))) (fseq (fFor (fRng1 (pCons (fVar 1) fNil)) (bName 4) b_law_names_1) (fRet (fVar 2))))
def F_law_names : List R → Pw → FRes := runF 6 2 p_law_names
/-! drawn lists -/
end DL

noncomputable section
namespace DL
open PySem L2
def p_is_number : DSt → Flow := fRet (fAndV (fIsi "int" (fVar 0)) (fV (fNot (fB (fIsi "bool" (fVar 0))))))
def F_is_number : List R → Pw → FRes := runF 1 1 p_is_number
def e_are_unlike_names_1 : M R := fAndV (fUser F_is_number (fCons (fVar 1) fNil)) (fOp (lift2 geO) (fVar 1) (fC (.int 0)))
abbrev l_are_unlike_names_1 : M R := fLc (fLstI (fVar 0)) (bName 1) fYes (e_are_unlike_names_1) [1]
def p_are_unlike_names : DSt → Flow := fseq (fIfS (fOr (fNot (fB (fIsi "list" (fVar 0)))) (fNot (fB (fCall allO (pCons (fLc (fLstI (fVar 0)) (bName 1) fYes (e_are_unlike_names_1) [1]) fNil))))) (fRet (fC (.bool false))) fnext) (fRet (fOp (lift2 eqO) (fLenSet (fVar 0)) (fCall lenO (pCons (fVar 0) fNil))))
def F_are_unlike_names : List R → Pw → FRes := runF 2 1 p_are_unlike_names
def p_is_ranking : DSt → Flow := fRet (fAndV (fUser F_are_unlike_names (fCons (fVar 0) fNil)) (fAndV (fOp (lift2 gtO) (fCall lenO (pCons (fVar 0) fNil)) (fC (.int 0))) (fOp (lift2 leO) (fCall lenO (pCons (fVar 0) fNil)) (fC (.int 10)))))
def F_is_ranking : List R → Pw → FRes := runF 1 1 p_is_ranking
def p_must_be_ranking : DSt → Flow := fIfS (fNot (fB (fUser F_is_ranking (fCons (fVar 0) fNil)))) (fRaise "NoRanking") fnext
def F_must_be_ranking : List R → Pw → FRes := runF 1 1 p_must_be_ranking
def p_is_ahead : DSt → Flow := fRet (fOp (lift2 ltO) (fIndex (fVar 0) (fVar 1)) (fIndex (fVar 0) (fVar 2)))
def F_is_ahead : List R → Pw → FRes := runF 3 3 p_is_ahead
def p_ahead : DSt → Flow := fseq (fDrop (fUser F_must_be_ranking (fCons (fVar 0) fNil))) (fseq (fIfS (fOr (fB (fOp (lift2 notInO) (fVar 1) (fVar 0))) (fOr (fB (fOp (lift2 notInO) (fVar 2) (fVar 0))) (fB (fOp (lift2 eqO) (fVar 1) (fVar 2))))) (fRaise "NoNames") fnext) (fRet (fUser F_is_ahead (fCons (fVar 0) (fCons (fVar 1) (fCons (fVar 2) fNil))))))
def F_ahead : List R → Pw → FRes := runF 3 3 p_ahead
def e_places_of_pairs_1 : M R := fTup (fCons (fVar 2) (fCons (fVar 3) fNil))
abbrev l_places_of_pairs_1 : M R := fLc (fRng2 (pCons (fOp (lift2 addO) (fVar 2) (fC (.int 1))) (pCons (fVar 0) fNil))) (bName 3) fYes (e_places_of_pairs_1) [3]
def b_places_of_pairs_2 : DSt → Flow := fSet 1 (fOp (lift2 addO) (fVar 1) (fLc (fRng2 (pCons (fOp (lift2 addO) (fVar 2) (fC (.int 1))) (pCons (fVar 0) fNil))) (bName 3) fYes (e_places_of_pairs_1) [3]))
abbrev o_places_of_pairs_2 : List PyData → DSt → Flow := loopF (bName 2) b_places_of_pairs_2
def p_places_of_pairs : DSt → Flow := fseq (fSet 1 (fLst fNil)) (fseq (fFor (fRng1 (pCons (fVar 0) fNil)) (bName 2) b_places_of_pairs_2) (fRet (fVar 1)))
def F_places_of_pairs : List R → Pw → FRes := runF 4 1 p_places_of_pairs
def e_pairs_of_1 : M R := fTup (fCons (fOp (lift2 ixO) (fVar 0) (fVar 1)) (fCons (fOp (lift2 ixO) (fVar 0) (fVar 2)) fNil))
abbrev l_pairs_of_1 : M R := fLc (fLstI (fUser F_places_of_pairs (fCons (fCall lenO (pCons (fVar 0) fNil)) fNil))) (bTup 2 (bCons (bName 1) (bCons (bName 2) bNil))) fYes (e_pairs_of_1) [1, 2]
def p_pairs_of : DSt → Flow := fRet (fLc (fLstI (fUser F_places_of_pairs (fCons (fCall lenO (pCons (fVar 0) fNil)) fNil))) (bTup 2 (bCons (bName 1) (bCons (bName 2) bNil))) fYes (e_pairs_of_1) [1, 2])
def F_pairs_of : List R → Pw → FRes := runF 3 1 p_pairs_of
def t_many_unlike_1 : M Bool := fNot (fB (fUser F_is_ahead (fCons (fVar 1) (fCons (fOp (lift2 ixO) (fVar 2) (fC (.int 0))) (fCons (fOp (lift2 ixO) (fVar 2) (fC (.int 1))) fNil)))))
def e_many_unlike_2 : M R := fVar 2
abbrev l_many_unlike_2 : M R := fLc (fLstI (fUser F_pairs_of (fCons (fVar 0) fNil))) (bName 2) (t_many_unlike_1) (e_many_unlike_2) [2]
def p_many_unlike : DSt → Flow := fRet (fCall lenO (pCons (fLc (fLstI (fUser F_pairs_of (fCons (fVar 0) fNil))) (bName 2) (t_many_unlike_1) (e_many_unlike_2) [2]) fNil))
def F_many_unlike : List R → Pw → FRes := runF 3 2 p_many_unlike
def b_must_be_alike_named_1 : DSt → Flow := fDrop (fUser F_must_be_ranking (fCons (fVar 1) fNil))
abbrev o_must_be_alike_named_1 : List PyData → DSt → Flow := loopF (bName 1) b_must_be_alike_named_1
def e_must_be_alike_named_2 : M R := fOp (lift2 eqO) (fCall sortedO (pCons (fVar 1) fNil)) (fCall sortedO (pCons (fOp (lift2 ixO) (fVar 0) (fC (.int 0))) fNil))
abbrev l_must_be_alike_named_2 : M R := fLc (fLstI (fVar 0)) (bName 1) fYes (e_must_be_alike_named_2) [1]
def p_must_be_alike_named : DSt → Flow := fseq (fFor (fLstI (fVar 0)) (bName 1) b_must_be_alike_named_1) (fIfS (fNot (fB (fCall allO (pCons (fLc (fLstI (fVar 0)) (bName 1) fYes (e_must_be_alike_named_2) [1]) fNil)))) (fRaise "NoFit") fnext)
def F_must_be_alike_named : List R → Pw → FRes := runF 2 1 p_must_be_alike_named
def p_unlike : DSt → Flow := fseq (fDrop (fUser F_must_be_alike_named (fCons (fLst (fCons (fVar 0) (fCons (fVar 1) fNil))) fNil))) (fRet (fUser F_many_unlike (fCons (fVar 0) (fCons (fVar 1) fNil))))
def F_unlike : List R → Pw → FRes := runF 2 2 p_unlike
def Rank (ns : List Int) : Prop := ns.Nodup ∧ (∀ x ∈ ns, 0 ≤ x) ∧ 0 < ns.length ∧ ns.length ≤ 10
theorem Rank.perm {ns ms : List Int} (h : Rank ns) (p : ms.Perm ns) : Rank ms := ⟨p.nodup_iff.mpr h.1, fun x hx => h.2.1 x (p.mem_iff.mp hx), by rw [p.length_eq]; exact h.2.2.1, by rw [p.length_eq]; exact h.2.2.2⟩
@[simp] theorem is_number_int {n : Int} {w : Pw} : F_is_number [.val (.int n)] w = .ok (.val (.bool true)) w := by
  unfold F_is_number p_is_number
  simp -implicitDefEqProofs [x_runF]
theorem unlike_names_ok {ns : List Int} {w : Pw} (h1 : ns.Nodup) (h2 : ∀ x ∈ ns, 0 ≤ x) (hl : ns.length ≤ 4000) : F_are_unlike_names [.val (.list (ns.map .int))] w = .ok (.val (.bool true)) w := by
  have e : fLc (fLstI (fVar 0)) (bName 1) fYes e_are_unlike_names_1 [1] ⟨[.val (.list (ns.map .int)), .no], w⟩ = .ok (.new (ns.map fun x => .bool (decide (0 ≤ x)))) ⟨[.val (.list (ns.map .int)), .no], w⟩ := by
    refine lc_all (fun a : Int => ⟨[.val (.list (ns.map .int)), .val (.int a)], w⟩) _ (f := .int) (l := ns) (by simp -implicitDefEqProofs) (by omega) rfl (fun a _ => by rfl) (fun a _ => by rfl) (fun a _ => ?_)
    unfold e_are_unlike_names_1
    simp -implicitDefEqProofs
  have e2 : (ns.map fun x : Int => decide (0 ≤ x)).all id = true := by
    simpa using h2
  have e3 : ns.length ≤ 4000 := hl
  have e4 := nub_len h1
  unfold F_are_unlike_names p_are_unlike_names
  simp only [x_runF]
  simp -implicitDefEqProofs [e, boolsD_map', e2, e3, e4]
theorem is_ranking_ok {ns : List Int} {w : Pw} (h : Rank ns) : F_is_ranking [.val (.list (ns.map .int))] w = .ok (.val (.bool true)) w := by
  obtain ⟨h1, h2, h3, h4⟩ := h
  unfold F_is_ranking p_is_ranking
  simp only [x_runF]
  have h4' : (ns.length : Int) ≤ 10 := by omega
  simp -implicitDefEqProofs [unlike_names_ok h1 h2 (by omega), h3, h4']
theorem must_ranking_ok {ns : List Int} {w : Pw} (h : Rank ns) : F_must_be_ranking [.val (.list (ns.map .int))] w = .ok (.val .none) w := by
  unfold F_must_be_ranking p_must_be_ranking
  simp only [x_runF]
  simp -implicitDefEqProofs [is_ranking_ok h]
/-! ### pairs of places -/
def places (n : Nat) : List (Nat × Nat) := (List.range n).flatMap fun k => (List.range (n - (k + 1))).map fun j => (k, k + 1 + j)
def plD (p : Nat × Nat) : PyData := .tuple [.int (p.1 : Int), .int (p.2 : Int)]
def pairsI (ns : List Int) : List (Int × Int) := (places ns.length).map fun p => (ns.getD p.1 0, ns.getD p.2 0)
def prD (p : Int × Int) : PyData := .tuple [.int p.1, .int p.2]
def manyI (one other : List Int) : Nat := ((pairsI one).filter fun p => !decide (other.idxOf p.1 < other.idxOf p.2)).length
theorem sortI_perm_eq {a b : List Int} (h : a.Perm b) : sortI a = sortI b := sortI_eq ((sortI_perm a).trans h) (sortI_le a)
end DL

noncomputable section
namespace DL
open PySem L2
def p_law_many : DSt → Flow := fRet (fOp (lift2 addO) (fC (.int 1)) (fUser F_law_draw (fCons (fVar 0) (fCons (fOp (lift2 ixO) (fLst (fCons (fC (.int 4)) (fCons (fC (.int 7)) (fCons (fC (.int 10)) fNil)))) (fUser F_law_draw (fCons (fVar 0) (fCons (fC (.int 3)) fNil)))) fNil))))
def F_law_many : List R → Pw → FRes := runF 1 1 p_law_many
def cntP (one other : List Int) (a b : Int) : Bool := decide (one.idxOf a < one.idxOf b ∧ other.idxOf b < other.idxOf a)
def cnt2 (one other : List Int) (a : Int) : Nat := (one.filter (cntP one other a)).length
/-! ### twofold sums -/
def dbl (l : List Int) (f : Int → Int → Nat) : Nat := (l.map fun x => (l.map (f x)).sum).sum
def ah (r : List Int) (x y : Int) : Bool := decide (r.idxOf x < r.idxOf y)
def uq (a b : List Int) (x y : Int) : Nat := if ah a x y = ah b x y then 0 else 1
end DL

noncomputable section
namespace DL
open PySem L2
def p_law_mix : DSt → Flow := fseq (fSet 2 (fOp (lift2 modO) (fOp (lift2 mulO) (fOp (lift2 addO) (fOp (lift2 addO) (fOp (lift2 mulO) (fVar 0) (fVar 0)) (fOp (lift2 mulO) (fVar 1) (fVar 0))) (fOp (lift2 mulO) (fOp (lift2 mulO) (fC (.int 7)) (fVar 1)) (fVar 1))) (fC (.int 1103515245))) (fC (.int 2147483629)))) (fRet (fOp (lift2 modO) (fOp (lift2 mulO) (fVar 2) (fVar 2)) (fC (.int 2147483587))))
def F_law_mix : List R → Pw → FRes := runF 3 2 p_law_mix
def p_law_left : DSt → Flow := fseq (fIfS (fB (fOp (lift2 ltO) (fVar 0) (fOp (lift2 powO) (fC (.int 10)) (fC (.int 18))))) (fRet (fLst (fCons (fOp (lift2 modO) (fVar 0) (fC (.int 2147483629))) (fCons (fC (.int 0)) (fCons (fC (.int 0)) fNil))))) fnext) (fRet (fLst (fCons (fOp (lift2 modO) (fOp (lift2 subO) (fVar 0) (fOp (lift2 powO) (fC (.int 10)) (fC (.int 18)))) (fOp (lift2 powO) (fOp (lift2 powO) (fOp (lift2 powO) (fC (.int 10)) (fC (.int 60))) (fC (.int 20))) (fC (.int 5)))) (fCons (fC (.int 1)) (fCons (fC (.int 0)) fNil)))))
def F_law_left : List R → Pw → FRes := runF 1 1 p_law_left
def p_law_draw_v3 : DSt → Flow := fseq (fSetC 0 (fOp (lift2 addO) (fIxC 0 (fC (.int 2))) (fC (.int 1))) (fC (.int 2))) (fseq (fIfS (fB (fOp (lift2 eqO) (fIxC 0 (fC (.int 1))) (fC (.int 0)))) (fseq (fSet 2 (fUser F_law_mix (fCons (fIxC 0 (fC (.int 0))) (fCons (fIxC 0 (fC (.int 2))) fNil)))) (fseq (fIfS (fB (fOp (lift2 gtO) (fVar 1) (fOp (lift2 powO) (fC (.int 10)) (fC (.int 9))))) (fRet (fOp (lift2 modO) (fOp (lift2 mulO) (fVar 2) (fOp (lift2 addO) (fOp (lift2 powO) (fUser F_law_mix (fCons (fIxC 0 (fC (.int 0))) (fCons (fOp (lift2 addO) (fIxC 0 (fC (.int 2))) (fC (.int 500))) fNil))) (fC (.int 3))) (fC (.int 1)))) (fVar 1))) fnext) (fRet (fOp (lift2 modO) (fOp (lift2 modO) (fOp (lift2 mulO) (fVar 2) (fOp (lift2 addO) (fVar 2) (fC (.int 2)))) (fC (.int 2147483579))) (fVar 1))))) fnext) (fseq (fSet 3 (fOp (lift2 modO) (fIxC 0 (fC (.int 0))) (fVar 1))) (fseq (fSetC 0 (fOp (lift2 fdivO) (fIxC 0 (fC (.int 0))) (fVar 1)) (fC (.int 0))) (fRet (fVar 3)))))
def F_law_draw_v3 : List R → Pw → FRes := runF 4 2 p_law_draw_v3
/-! family C: the list of numbers drawn from -/
def LP (pa : Addr) (w : Pw) (m : Int) : Prop := ∃ n g t : Int, w = some (pa, pa, [n, g, t], 0) ∧ 0 ≤ n ∧ (g = 0 → n < 2147483629) ∧ 0 ≤ t ∧ t ≤ m
theorem LP.mono {pa : Addr} {w : Pw} {m m' : Int} (h : LP pa w m) (h2 : m ≤ m') : LP pa w m' := by
  obtain ⟨n, g, t, e, h1, h3, h4, h5⟩ := h
  exact ⟨n, g, t, e, h1, h3, h4, by omega⟩
theorem mul_nn {a b A B : Int} (h0 : 0 ≤ a) (h1 : a < A) (h2 : 0 ≤ b) (h3 : b < B) : 0 ≤ a * b ∧ a * b < A * B := by
  have x1 := Int.mul_nonneg h0 h2
  have x2 : a * b ≤ a * B := Int.mul_le_mul_of_nonneg_left (by omega) h0
  have x3 : a * B < A * B := Int.mul_lt_mul_of_pos_right h1 (by omega)
  exact ⟨x1, by omega⟩
theorem mul_g {a b A B : Int} (h0 : 0 ≤ a) (h1 : a < A) (h2 : 0 ≤ b) (h3 : b < B) (hA : A ≤ 2 ^ 200) (hB : B ≤ 2 ^ 200) : ∃ c, mulO (.int a) (.int b) = some (.val (.int c)) ∧ 0 ≤ c ∧ c < A * B := by
  obtain ⟨x1, x2⟩ := mul_nn h0 h1 h2 h3
  exact ⟨a * b, mul_ok (by omega) (by omega) (by omega) (by omega), x1, x2⟩
theorem mix_ok {n k : Int} {w : Pw} (n0 : 0 ≤ n) (n1 : n < 2147483648) (k0 : 0 ≤ k) (k1 : k < 1099511627776) : ∃ r, F_law_mix [.val (.int (n)), .val (.int (k))] w = .ok (.val (.int (r))) w ∧ 0 ≤ r ∧ r < 2147483587 := by
  obtain ⟨a, ea, a0, a1⟩ := mul_g n0 n1 n0 n1 (by omega) (by omega)
  obtain ⟨b, eb, b0, b1⟩ := mul_g k0 k1 n0 n1 (by omega) (by omega)
  obtain ⟨c, ec, c0, c1⟩ := mul_g (a := 7) (A := 8) (by omega) (by omega) k0 k1 (by omega) (by omega)
  obtain ⟨d, ed, d0, d1⟩ := mul_g c0 c1 k0 k1 (by omega) (by omega)
  obtain ⟨x, ex, x0, x1⟩ := mul_g (a := a + b + d) (b := 1103515245) (A := 2 ^ 100) (B := 2 ^ 31) (by omega) (by omega) (by omega) (by omega) (by omega) (by omega)
  have y0 := Int.emod_nonneg x (by omega : (2147483629 : Int) ≠ 0)
  have y1 := Int.emod_lt_of_pos x (by omega : (0 : Int) < 2147483629)
  obtain ⟨y, hy⟩ : ∃ y, y = x % 2147483629 := ⟨_, rfl⟩
  rw [← hy] at y0 y1
  obtain ⟨z, ez, z0, z1⟩ := mul_g y0 y1 y0 y1 (by omega) (by omega)
  have r0 := Int.emod_nonneg z (by omega : (2147483587 : Int) ≠ 0)
  have r1 := Int.emod_lt_of_pos z (by omega : (0 : Int) < 2147483587)
  refine ⟨z % 2147483587, ?_, r0, r1⟩
  unfold F_law_mix p_law_mix
  simp only [x_runF]
  simp -implicitDefEqProofs [ea, eb, ec, ed, ex, ← hy, ez, mod_ok]
theorem big_pow : ∃ A : Int, 0 < A ∧ ∃ T U, powO (.int 10) (.int 60) = some (.val (.int T)) ∧ powO (.int T) (.int 20) = some (.val (.int U)) ∧ powO (.int U) (.int 5) = some (.val (.int A)) := by
  obtain ⟨t, e, t0, t1⟩ : ∃ t : Nat, powO (.int 10) (.int 60) = some (.val (.int (t : Int))) ∧ 0 < t ∧ t < 2 ^ 200 := by
    obtain ⟨n, hn⟩ : ∃ n : Nat, n = 60 := ⟨_, rfl⟩
    refine ⟨10 ^ n, ?_, Nat.pow_pos (by decide), by rw [hn]; decide +kernel⟩
    have e : powO (.int 10) (.int 60) = some (.val (.int (10 ^ n))) := by
      rw [hn]
      exact pow_ok (by omega) (by omega) (by omega) (by omega)
    rw [e]
    congr 3
  have u0 : 0 < t ^ 20 := Nat.pow_pos t0
  have u1 : t ^ 20 < 2 ^ 4000 := by
    have := Nat.pow_lt_pow_left t1 (by decide : (20 : Nat) ≠ 0)
    rwa [← Nat.pow_mul] at this
  have lt : lgP (t : Int) := by
    unfold lgP
    rw [Int.natAbs_natCast]
    have := (Nat.log2_lt (n := t) (k := 200) (by omega)).mpr t1
    omega
  have e2 : powO (.int (t : Int)) (.int 20) = some (.val (.int ((t ^ 20 : Nat) : Int))) := by
    rw [x_pow, if_pos ⟨by decide, by unfold leP; decide, lt⟩]
    congr 3
  obtain ⟨u, hu⟩ : ∃ u, u = t ^ 20 := ⟨_, rfl⟩
  rw [← hu] at u0 u1 e2
  have lu : lgP (u : Int) := by
    unfold lgP
    rw [Int.natAbs_natCast]
    exact (Nat.log2_lt (n := u) (k := 4000) (by omega)).mpr u1
  have e3 : powO (.int (u : Int)) (.int 5) = some (.val (.int ((u : Int) ^ (5 : Int).toNat))) := by
    rw [x_pow, if_pos ⟨by decide, by unfold leP; decide, lu⟩]
  exact ⟨_, Int.pow_pos (by omega), _, _, e, e2, e3⟩
theorem left_ok {c : Int} {w : Pw} : ∃ n g : Int, F_law_left [.val (.int (c))] w = .ok (.new [.int n, .int g, .int 0]) w ∧ 0 ≤ n ∧ (g = 0 → n < 2147483629) := by
  obtain ⟨A, A0, T, U, e1, e2, e3⟩ := big_pow
  by_cases h : c < 1000000000000000000
  · refine ⟨c % 2147483629, 0, ?_, Int.emod_nonneg _ (by omega), fun _ => Int.emod_lt_of_pos _ (by omega)⟩
    unfold F_law_left p_law_left
    simp only [x_runF]
    simp -implicitDefEqProofs [h]
  · refine ⟨(c - 1000000000000000000) % A, 1, ?_, Int.emod_nonneg _ (by omega), fun z => by cases z⟩
    unfold F_law_left p_law_left
    simp only [x_runF]
    simp -implicitDefEqProofs [h, z18, e1, e2, e3, mod_ok A0, -pow_ok]
theorem draw2_ok {pa : Addr} {w : Pw} {m b : Int} (h : LP pa w m) (b0 : 0 < b) (b1 : b < 2 ^ 100) (hm : m < 2 ^ 38) : ∃ r w', F_law_draw_v3 [.raw (.ref pa), .val (.int (b))] w = .ok (.val (.int (r))) w' ∧ 0 ≤ r ∧ r < b ∧ LP pa w' (m + 1) := by
  obtain ⟨n, g, t, rfl, n0, n1, t0, t1⟩ := h
  have r0 : ∀ x : Int, 0 ≤ x % b := fun x => Int.emod_nonneg x (by omega)
  have r1 : ∀ x : Int, x % b < b := fun x => Int.emod_lt_of_pos x b0
  have em : ∀ x : Int, modO (.int x) (.int b) = some (.val (.int (x % b))) := fun x => mod_ok b0
  have ed : ∀ x : Int, fdivO (.int x) (.int b) = some (.val (.int (x / b))) := fun x => fdiv_ok b0 (by omega)
  have i2 : ixN 3 2 = some 2 := rfl
  have i0 : ixN 3 0 = some 0 := rfl
  have z9 : powO (.int 10) (.int 9) = some (.val (.int 1000000000)) := by simp
  by_cases hg : g = 0
  · subst hg
    have n1 := n1 rfl
    obtain ⟨x, e1, x0, x1⟩ := mix_ok (n := n) (k := t + 1) (w := some (pa, pa, [n, 0, t + 1], 0)) n0 (by omega) (by omega) (by omega)
    have lp : LP pa (some (pa, pa, [n, 0, t + 1], 0)) (m + 1) := ⟨n, 0, t + 1, rfl, n0, fun _ => n1, by omega, by omega⟩
    by_cases hb : 1000000000 < b
    · obtain ⟨y, e2, y0, y1⟩ := mix_ok (n := n) (k := t + 1 + 500) (w := some (pa, pa, [n, 0, t + 1], 0)) n0 (by omega) (by omega) (by omega)
      have e3 : powO (.int y) (.int 3) = some (.val (.int (y ^ 3))) := pow_ok (by omega) (by omega) (by omega) (by omega)
      obtain ⟨q0, q1⟩ := mul_nn y0 y1 y0 y1
      obtain ⟨q2, q3⟩ := mul_nn q0 q1 y0 y1
      have ey : y ^ 3 = y * y * y := by rw [Int.pow_succ, Int.pow_succ, Int.pow_succ, Int.pow_zero, Int.one_mul]
      rw [← ey] at q2 q3
      obtain ⟨p, hp⟩ : ∃ p, p = y ^ 3 := ⟨_, rfl⟩
      rw [← hp] at q2 q3 e3
      obtain ⟨z, e4, z0, z1⟩ := mul_g (a := x) (b := p + 1) (A := 2 ^ 31) (B := 2 ^ 94) x0 (by omega) (by omega) (by omega) (by omega) (by omega)
      refine ⟨z % b, _, ?_, r0 _, r1 _, lp⟩
      unfold F_law_draw_v3 p_law_draw_v3
      simp only [x_runF]
      simp -implicitDefEqProofs [i2, i0, z9, e1, hb, e2, e3, e4, em, -pow_ok]
    · obtain ⟨z, e4, z0, z1⟩ := mul_g (a := x) (b := x + 2) (A := 2 ^ 31) (B := 2 ^ 32) x0 (by omega) (by omega) (by omega) (by omega) (by omega)
      refine ⟨z % 2147483579 % b, _, ?_, r0 _, r1 _, lp⟩
      unfold F_law_draw_v3 p_law_draw_v3
      simp only [x_runF]
      simp -implicitDefEqProofs [i2, i0, z9, e1, hb, e4, em]
  · have d0 : 0 ≤ n / b := Int.ediv_nonneg n0 (by omega)
    refine ⟨n % b, some (pa, pa, [n / b, g, t + 1], 0), ?_, r0 _, r1 _, ⟨n / b, g, t + 1, rfl, d0, fun z => (hg z).elim, by omega, by omega⟩⟩
    unfold F_law_draw_v3 p_law_draw_v3
    simp only [x_runF]
    simp -implicitDefEqProofs [i2, i0, hg, em, ed]

end DL

noncomputable section
namespace DL
open PySem L2

/-! lists of lists in order -/
def llD (x : List Int) : PyData := .list (x.map .int)
def leLL (a b : List Int) : Bool := PySem.W.sortLe (PyProof.Rows.listOrd PyProof.Rows.itemOrd) false PySem.W.keyToks (llD a) (llD b)
def sortLL (ls : List (List Int)) : List (List Int) := ls.mergeSort leLL
end DL

noncomputable section
namespace DL
open PySem L2
def b_law_names_v6_1 : DSt → Flow := fseq (fSet 4 (fOp (lift2 addO) (fOp (lift2 addO) (fVar 4) (fC (.int 1))) (fUser F_law_draw_v3 (fCons (fVar 0) (fCons (fVar 2) fNil))))) (fDrop (fApp 3 (fVar 4)))
abbrev o_law_names_v6_1 : List PyData → DSt → Flow := loopF (bName 5) b_law_names_v6_1
def p_law_names_v6 : DSt → Flow := fseq (fSet 2 (fOp (lift2 ixO) (fLst (fCons (fC (.int 1)) (fCons (fC (.int 1)) (fCons (fC (.int 3)) (fCons (fOp (lift2 powO) (fC (.int 10)) (fC (.int 9))) fNil))))) (fUser F_law_draw_v3 (fCons (fVar 0) (fCons (fC (.int 4)) fNil))))) (fseq (fSet 3 (fLst fNil)) (fseq (fSet 4 (fUn (lift1 negO) (fC (.int 1)))) (fseq (fFor (fRng1 (pCons (fVar 1) fNil)) (bName 5) b_law_names_v6_1) (fRet (fVar 3)))))
def F_law_names_v6 : List R → Pw → FRes := runF 6 2 p_law_names_v6
def b_law_shuffled_v3_1 : DSt → Flow := fDrop (fIns 2 (fCons (fUser F_law_draw_v3 (fCons (fVar 0) (fCons (fOp (lift2 addO) (fCall lenO (pCons (fVar 2) fNil)) (fC (.int 1))) fNil))) (fCons (fVar 3) fNil)))
abbrev o_law_shuffled_v3_1 : List PyData → DSt → Flow := loopF (bName 3) b_law_shuffled_v3_1
def p_law_shuffled_v3 : DSt → Flow := fseq (fSet 2 (fLst fNil)) (fseq (fFor (fLstI (fVar 1)) (bName 3) b_law_shuffled_v3_1) (fRet (fVar 2)))
def F_law_shuffled_v3 : List R → Pw → FRes := runF 4 2 p_law_shuffled_v3
def b_law_tree_v2_1 : DSt → Flow := fseq (fSet 6 (fOp (lift2 ixO) (fVar 2) (fOp (lift2 ixO) (fLst (fCons (fUser F_law_draw_v3 (fCons (fVar 0) (fCons (fVar 5) fNil))) (fCons (fOp (lift2 subO) (fVar 5) (fC (.int 1))) (fCons (fC (.int 0)) fNil)))) (fVar 3)))) (fDrop (fApp 4 (fTup (fCons (fCall minO (pCons (fOp (lift2 ixO) (fVar 2) (fVar 5)) (pCons (fVar 6) fNil))) (fCons (fCall maxO (pCons (fOp (lift2 ixO) (fVar 2) (fVar 5)) (pCons (fVar 6) fNil))) fNil)))))
abbrev o_law_tree_v2_1 : List PyData → DSt → Flow := loopF (bName 5) b_law_tree_v2_1
def p_law_tree_v2 : DSt → Flow := fseq (fSet 2 (fUser F_law_shuffled_v3 (fCons (fVar 0) (fCons (fVar 1) fNil)))) (fseq (fSet 3 (fUser F_law_draw_v3 (fCons (fVar 0) (fCons (fC (.int 3)) fNil)))) (fseq (fSet 4 (fLst fNil)) (fseq (fFor (fRng2 (pCons (fC (.int 1)) (pCons (fCall lenO (pCons (fVar 2) fNil)) fNil))) (bName 5) b_law_tree_v2_1) (fRet (fCall sortedO (pCons (fVar 4) fNil))))))
def F_law_tree_v2 : List R → Pw → FRes := runF 7 2 p_law_tree_v2
theorem names6_ok {pa : Addr} {w : Pw} {m : Int} {n : Nat} (h : LP pa w m) (hm : m < 2 ^ 37) (hn : n ≤ 1000) : ∃ (ns : List Int) (w' : Pw), F_law_names_v6 [.raw (.ref pa), .val (.int ((n : Nat) : Int))] w = .ok (.new (ns.map .int)) w' ∧ ns.length = n ∧ ns.Pairwise (· < ·) ∧ (∀ x ∈ ns, 0 ≤ x ∧ x ≤ 1000000001 * n) ∧ LP pa w' (m + 5000) := by
  obtain ⟨r, w1, e1, r0, r1, q1⟩ := draw2_ok (b := 4) h (by omega) (by omega) (by omega)
  obtain ⟨far, ef, f0, f1⟩ : ∃ far : Int, atI [PyData.int 1, .int 1, .int 3, .int 1000000000] r = some (.int far) ∧ 0 < far ∧ far ≤ 1000000000 := by
    have : r = 0 ∨ r = 1 ∨ r = 2 ∨ r = 3 := by omega
    rcases this with q | q | q | q <;> rw [q]
    · exact ⟨1, rfl, by omega, by omega⟩
    · exact ⟨1, rfl, by omega, by omega⟩
    · exact ⟨3, rfl, by omega, by omega⟩
    · exact ⟨1000000000, rfl, by omega, by omega⟩
  obtain ⟨s', e, ns, last, w', v5, h1, h2, h3, h4, h6, rfl⟩ := loopN (b := bName 5) (p := b_law_names_v6_1) (f := fun (k : Nat) => PyData.int (0 + (k : Int))) (l := List.range n) (s := ⟨[.raw (.ref pa), .val (.int ((n : Nat) : Int)), .val (.int (far)), .own [], .val (.int (-1)), .no], w1⟩)
    (fun i s => ∃ (ns : List Int) (last : Int) (w' : Pw) (v5 : Sl), ns.length = i ∧ ns.Pairwise (· < ·) ∧ (∀ x ∈ ns, 0 ≤ x ∧ x ≤ last) ∧ (-1 ≤ last ∧ last ≤ 1000000001 * (i : Int)) ∧ LP pa w' (m + 1 + i) ∧ s = ⟨[.raw (.ref pa), .val (.int ((n : Nat) : Int)), .val (.int (far)), .own (ns.map .int), .val (.int (last)), v5], w'⟩)
    ⟨[], -1, w1, .no, rfl, .nil, by simp, by omega, by simpa using q1, rfl⟩ (by
      rintro i k s hi hk ⟨ns, last, w2, v5, h1, h2, h3, h4, h6, rfl⟩
      obtain ⟨rfl, hkn⟩ := range_at hi
      obtain ⟨d, w3, e3, d0, d1, q3⟩ := draw2_ok (b := far) h6 f0 (by omega) (by omega)
      have lt : ltS ns.length := size_lt (by omega)
      have em : ns.map PyData.int ++ [.int (last + 1 + d)] = (ns ++ [last + 1 + d]).map .int := by simp
      unfold b_law_names_v6_1
      simp -implicitDefEqProofs [e3, lt, em, -List.map_append, -map_int_inj]
      refine ⟨ns ++ [last + 1 + d], by rw [List.length_append, h1]; rfl, ?_, last + 1 + d, ?_, ⟨by omega, by omega⟩, q3.mono (by omega), rfl, rfl⟩
      · rw [List.pairwise_append]
        refine ⟨h2, List.pairwise_singleton _ _, fun a ha b hb => ?_⟩
        rw [List.mem_singleton] at hb
        have := h3 a ha
        omega
      · intro y hy
        rcases List.mem_append.mp hy with hy | hy
        · have := h3 y hy; omega
        · rw [List.mem_singleton] at hy; omega)
  have hB : inB (n : Int) := inB_of (by omega) (by omega)
  rw [List.length_range] at h1 h4 h6
  refine ⟨ns, w', ?_, h1, h2, fun x hx => ⟨(h3 x hx).1, by have := (h3 x hx).2; omega⟩, h6.mono (by omega)⟩
  have e' : loopF (bName 5) b_law_names_v6_1 (rangeD 0 n) ⟨[.raw (.ref pa), .val (.int ((n : Nat) : Int)), .val (.int (far)), .own [], .val (.int (-1)), .no], w1⟩ = _ := e
  unfold F_law_names_v6 p_law_names_v6
  simp only [x_runF]
  simp -implicitDefEqProofs [e1, ef, e', hB]
theorem shuffled3_ok {pa : Addr} {w : Pw} {m : Int} {N : List Int} (h : LP pa w m) (hm : m < 2 ^ 37) (h10 : N.length ≤ 1000) : ∃ (L : List Int) (w' : Pw), F_law_shuffled_v3 [.raw (.ref pa), .val (.list ((N).map .int))] w = .ok (.new (L.map .int)) w' ∧ L.Perm N ∧ LP pa w' (m + 1000) := by
  obtain ⟨s', e, L, v3, w', hp, q, rfl⟩ := loopN (b := bName 3) (p := b_law_shuffled_v3_1) (f := .int) (l := N) (s := ⟨[.raw (.ref pa), .val (.list ((N).map .int)), .own [], .no], w⟩)
    (fun i s => ∃ (L : List Int) (v3 : Sl) (w' : Pw), L.Perm (N.take i) ∧ LP pa w' (m + i) ∧ s = ⟨[.raw (.ref pa), .val (.list ((N).map .int)), .own (L.map .int), v3], w'⟩) ⟨[], .no, w, by simp, by simpa using h, rfl⟩ (by
      rintro i a s hi hm2 ⟨L, v3, w1, hp, q, rfl⟩
      have hi2 := (List.getElem?_eq_some_iff.mp hi).1
      have ll := hp.length_eq
      rw [List.length_take] at ll
      obtain ⟨k, w2, e2, k0, k1, q2⟩ := draw2_ok (b := (L.length : Int) + 1) q (by omega) (by omega) (by omega)
      obtain ⟨k, rfl⟩ := Int.eq_ofNat_of_zero_le k0
      have iw : inW (k : Int) := ⟨by omega, by omega⟩
      have lt : ltS L.length := size_lt (by omega)
      have em : (L.map PyData.int).take k ++ (PyData.int a :: (L.map PyData.int).drop k) = (L.take k ++ a :: L.drop k).map .int := by simp
      unfold b_law_shuffled_v3_1
      simp -implicitDefEqProofs [e2, iw, lt, em, -List.map_append, -List.map_cons, -List.map_take, -List.map_drop, -map_int_inj]
      refine ⟨_, ?_, q2.mono (by omega), rfl⟩
      rw [take_succ hi]
      have h1 : (L.take k ++ a :: L.drop k).Perm (a :: L) := by
        have := List.perm_middle (a := a) (l₁ := L.take k) (l₂ := L.drop k)
        rwa [List.take_append_drop] at this
      exact h1.trans ((List.Perm.cons a hp).trans (List.perm_append_singleton a (N.take i)).symm))
  refine ⟨L, w', ?_, by rwa [List.take_length] at hp, q.mono (by omega)⟩
  unfold F_law_shuffled_v3 p_law_shuffled_v3
  simp only [x_runF]
  simp -implicitDefEqProofs [e]
/-! ### ties in order -/
def tieP (a b : Int) : Int × Int := (min a b, max a b)
def lePr (p q : Int × Int) : Bool := PySem.W.sortLe (PyProof.Rows.listOrd PyProof.Rows.itemOrd) false PySem.W.keyToks (prT p) (prT q)
def sortPr (ps : List (Int × Int)) : List (Int × Int) := ps.mergeSort lePr
theorem sortDD_pr (ps : List (Int × Int)) : sortDD (ps.map prT) = (sortPr ps).map prT := (PySem.W.sort_maps prT fun _ _ _ _ => rfl).symm
theorem sortPr_perm (ps : List (Int × Int)) : (sortPr ps).Perm ps := List.mergeSort_perm _ _
theorem canSort_pr (ps : List (Int × Int)) : canSort (ps.map prT) := by
  refine ⟨fun d hd d' hd' => ?_, .inl fun d hd => ?_, fun d hd => ?_⟩
  · obtain ⟨x, _, rfl⟩ := List.mem_map.mp hd
    obtain ⟨y, _, rfl⟩ := List.mem_map.mp hd'
    rfl
  · obtain ⟨x, _, rfl⟩ := List.mem_map.mp hd
    exact ⟨_, _, rfl⟩
  · obtain ⟨x, _, rfl⟩ := List.mem_map.mp hd
    simp [prT]
theorem intsD_pr {ps : List (Int × Int)} : intsD (ps.map prT) = if ps = [] then some [] else none := by
  cases ps with
  | nil => rfl
  | cons p ps => rfl
theorem sortedO_pr (ps : List (Int × Int)) : sortedO [.list (ps.map prT)] = some (.new ((sortPr ps).map prT)) := by
  rw [x_sortedO, intsD_pr]
  by_cases h : ps = []
  · subst h
    have e1 : sortPr [] = [] := by simp [sortPr]
    have e2 : sortI [] = [] := by simp [sortI]
    rw [if_pos rfl, e1]
    simp only [e2, List.map_nil]
  · rw [if_neg h]
    simp only [if_pos (canSort_pr ps), sortDD_pr]
def GenT (N : List Int) (T : List (Int × Int)) : Prop := ∃ (L : List Int) (f : Nat → Nat), L.Perm N ∧ (∀ k, 0 < k → k < L.length → f k < k) ∧ T = sortPr ((List.range' 1 (L.length - 1)).map fun k => tieP (L.getD k 0) (L.getD (f k) 0))
theorem tree_ok {pa : Addr} {w : Pw} {m : Int} {N : List Int} (h : LP pa w m) (hm : m < 2 ^ 36) (h0 : 0 < N.length) (h10 : N.length ≤ 1000) : ∃ (T : List (Int × Int)) (w' : Pw), F_law_tree_v2 [.raw (.ref pa), .val (.list ((N).map .int))] w = .ok (.new (T.map prT)) w' ∧ GenT N T ∧ LP pa w' (m + 5000) := by
  obtain ⟨L, w1, e1, hp, q1⟩ := shuffled3_ok h (by omega) h10
  obtain ⟨way, w2, e2, y0, y1, q2⟩ := draw2_ok (b := 3) q1 (by omega) (by omega) (by omega)
  have hl := hp.length_eq
  obtain ⟨s', e, T, f, v4, v5, v6, w', ⟨hf, hT⟩, q, rfl⟩ := loopN (b := bName 5) (p := b_law_tree_v2_1) (f := fun (k : Nat) => PyData.int (k : Int)) (l := List.range' 1 (L.length - 1)) (s := ⟨[.raw (.ref pa), .val (.list ((N).map .int)), .own (L.map .int), .val (.int (way)), .own [], .no, .no], w2⟩)
    (fun i s => ∃ (T : List (Int × Int)) (f : Nat → Nat) (v4 v5 v6 : Sl) (w' : Pw), ((∀ k, 0 < k → k < 1 + i → f k < k) ∧ T = (List.range' 1 i).map fun k => tieP (L.getD k 0) (L.getD (f k) 0)) ∧ LP pa w' (m + 1001 + i) ∧ s = ⟨[.raw (.ref pa), .val (.list ((N).map .int)), .own (L.map .int), .val (.int (way)), .own (T.map prT), v5, v6], w'⟩) ⟨[], fun _ => 0, .no, .no, .no, w2, ⟨by omega, rfl⟩, q2.mono (by simp; omega), rfl⟩ (by
      rintro i k s hi hm2 ⟨T, f, v4, v5, v6, w3, ⟨hf, hT⟩, q, rfl⟩
      have hk : k = 1 + i ∧ i < L.length - 1 := by
        have h1 := (List.getElem?_eq_some_iff.mp hi).1
        rw [List.length_range'] at h1
        rw [List.getElem?_range' h1] at hi
        cases hi
        exact ⟨by omega, h1⟩
      obtain ⟨rfl, hil⟩ := hk
      obtain ⟨d, w4, e4, d0, d1, q4⟩ := draw2_ok (b := ((1 + i : Nat) : Int)) q (by omega) (by omega) (by omega)
      obtain ⟨d, rfl⟩ := Int.eq_ofNat_of_zero_le d0
      obtain ⟨j, ej, jl⟩ : ∃ j : Nat, atI [PyData.int (d : Int), .int (((1 + i : Nat) : Int) - 1), .int 0] way = some (.int (j : Int)) ∧ j < 1 + i := by
        have : way = 0 ∨ way = 1 ∨ way = 2 := by omega
        rcases this with z | z | z <;> rw [z]
        · exact ⟨d, rfl, by omega⟩
        · have : ((1 + i : Nat) : Int) - 1 = (i : Int) := by omega
          rw [this]
          exact ⟨i, rfl, by omega⟩
        · exact ⟨0, rfl, by omega⟩
      have ak : atI (L.map PyData.int) ((1 + i : Nat) : Int) = some (.int (L.getD (1 + i) 0)) := by rw [atI_nat]; simp [List.getElem?_eq_getElem (show 1 + i < L.length by omega)]
      have aj : atI (L.map PyData.int) (j : Int) = some (.int (L.getD j 0)) := by rw [atI_nat]; simp [List.getElem?_eq_getElem (show j < L.length by omega)]
      obtain ⟨K, hK⟩ : ∃ K : Int, K = ((1 + i : Nat) : Int) := ⟨_, rfl⟩
      rw [← hK] at e4 ej ak
      have lt : ltS T.length := size_lt (by rw [hT]; simp; omega)
      unfold b_law_tree_v2_1
      rw [← hK]
      simp -implicitDefEqProofs [e4, ej, ak, aj, lt, -List.getD_eq_getElem?_getD]
      have et : PyData.tuple [PyData.int (if L.getD j 0 < L.getD (1 + i) 0 then L.getD j 0 else L.getD (1 + i) 0), PyData.int (if L.getD (1 + i) 0 < L.getD j 0 then L.getD j 0 else L.getD (1 + i) 0)] = prT (tieP (L.getD (1 + i) 0) (L.getD j 0)) := by
        have e1 : (if L.getD j 0 < L.getD (1 + i) 0 then L.getD j 0 else L.getD (1 + i) 0) = min (L.getD (1 + i) 0) (L.getD j 0) := by split <;> omega
        have e2 : (if L.getD (1 + i) 0 < L.getD j 0 then L.getD j 0 else L.getD (1 + i) 0) = max (L.getD (1 + i) 0) (L.getD j 0) := by split <;> omega
        rw [e1, e2]
        rfl
      refine ⟨T ++ [tieP (L.getD (1 + i) 0) (L.getD j 0)], ⟨fun k => if k = 1 + i then j else f k, fun k k0 k1 => ?_, ?_⟩, q4.mono (by omega), .no, by rw [et]; simp⟩
      · by_cases z : k = 1 + i
        · show (if k = 1 + i then j else f k) < k
          rw [if_pos z]; omega
        · show (if k = 1 + i then j else f k) < k
          rw [if_neg z]; exact hf k k0 (by omega)
      · rw [List.range'_concat, List.map_append, hT]
        congr 1
        · refine List.map_congr_left fun k hk => ?_
          rw [List.mem_range'_1] at hk
          have z : (if k = 1 + i then j else f k) = f k := if_neg (by omega)
          show _ = tieP (L.getD k 0) (L.getD (if k = 1 + i then j else f k) 0)
          rw [z]
        · simp)
  have hB : inB (1 : Int) := inB_of (by omega) (by omega)
  have hB2 : inB (L.length : Int) := inB_of (by omega) (by omega)
  rw [List.length_range'] at hf hT q
  refine ⟨sortPr T, w', ?_, ⟨L, f, hp, fun k k0 k1 => hf k k0 (by omega), by rw [hT]⟩, q.mono (by omega)⟩
  have so := sortedO_pr T
  have et : ((L.length : Int) - 1).toNat = L.length - 1 := by omega
  have rg : rangeD 1 (L.length - 1) = (List.range' 1 (L.length - 1)).map fun k : Nat => PyData.int (k : Int) := by
    unfold rangeD
    rw [List.range'_eq_map_range, List.map_map]
    refine List.map_congr_left fun k _ => ?_
    simp
  rw [← rg] at e
  unfold F_law_tree_v2 p_law_tree_v2
  simp only [x_runF]
  simp -implicitDefEqProofs [e1, e2, e, hB, hB2, et, so, -x_sortedO]

end DL

noncomputable section
namespace DL
open PySem L2
def t_reached_1 : M Bool := fB (fOp (lift2 notInO) (fVar 7) (fVar 3))
def e_reached_2 : M R := fVar 7
abbrev l_reached_2 : M R := fLc (fTupI (fTup (fCons (fVar 5) (fCons (fVar 6) fNil)))) (bName 7) (t_reached_1) (e_reached_2) [7]
def b_reached_3 : DSt → Flow := fIfS (fAnd (fB (fOp (lift2 inO) (fVar 5) (fVar 1))) (fAnd (fB (fOp (lift2 inO) (fVar 6) (fVar 1))) (fB (fOp (lift2 neO) (fOp (lift2 inO) (fVar 5) (fVar 3)) (fOp (lift2 inO) (fVar 6) (fVar 3)))))) (fSet 3 (fOp (lift2 addO) (fVar 3) (fLc (fTupI (fTup (fCons (fVar 5) (fCons (fVar 6) fNil)))) (bName 7) (t_reached_1) (e_reached_2) [7]))) fnext
abbrev o_reached_3 : List PyData → DSt → Flow := loopF (bTup 2 (bCons (bName 5) (bCons (bName 6) bNil))) b_reached_3
def c_reached_4 : M Bool := fB (fOp (lift2 ltO) (fVar 4) (fCall lenO (pCons (fVar 3) fNil)))
def b_reached_5 : DSt → Flow := fseq (fSet 4 (fCall lenO (pCons (fVar 3) fNil))) (fFor (fLstI (fVar 0)) (bTup 2 (bCons (bName 5) (bCons (bName 6) bNil))) b_reached_3)
abbrev o_reached_5 : DSt → Flow := whileF c_reached_4 b_reached_5 10000
def p_reached : DSt → Flow := fseq (fSet 3 (fLst (fCons (fVar 2) fNil))) (fseq (fSet 4 (fC (.int 0))) (fseq (whileF c_reached_4 b_reached_5 10000) (fRet (fVar 3))))
def F_reached : List R → Pw → FRes := runF 8 3 p_reached
def p_hang_together : DSt → Flow := fRet (fOp (lift2 eqO) (fCall lenO (pCons (fUser F_reached (fCons (fVar 0) (fCons (fVar 1) (fCons (fOp (lift2 ixO) (fVar 1) (fC (.int 0))) fNil)))) fNil)) (fCall lenO (pCons (fVar 1) fNil)))
def F_hang_together : List R → Pw → FRes := runF 2 2 p_hang_together
def t_law_together_1 : M Bool := fB (fOp (lift2 notInO) (fVar 6) (fVar 2))
def e_law_together_2 : M R := fVar 6
abbrev l_law_together_2 : M R := fLc (fTupI (fTup (fCons (fVar 4) (fCons (fVar 5) fNil)))) (bName 6) (t_law_together_1) (e_law_together_2) [6]
def b_law_together_3 : DSt → Flow := fIfS (fAnd (fB (fOp (lift2 inO) (fVar 4) (fVar 1))) (fAnd (fB (fOp (lift2 inO) (fVar 5) (fVar 1))) (fB (fOp (lift2 neO) (fOp (lift2 inO) (fVar 4) (fVar 2)) (fOp (lift2 inO) (fVar 5) (fVar 2)))))) (fSet 2 (fOp (lift2 addO) (fVar 2) (fLc (fTupI (fTup (fCons (fVar 4) (fCons (fVar 5) fNil)))) (bName 6) (t_law_together_1) (e_law_together_2) [6]))) fnext
abbrev o_law_together_3 : List PyData → DSt → Flow := loopF (bTup 2 (bCons (bName 4) (bCons (bName 5) bNil))) b_law_together_3
def b_law_together_4 : DSt → Flow := fFor (fLstI (fVar 0)) (bTup 2 (bCons (bName 4) (bCons (bName 5) bNil))) b_law_together_3
abbrev o_law_together_4 : List PyData → DSt → Flow := loopF (bName 3) b_law_together_4
def p_law_together : DSt → Flow := fseq (fSet 2 (fSlice (fVar 1) fNoPart (fPart (fC (.int 1))))) (fseq (fFor (fRng1 (pCons (fCall lenO (pCons (fVar 1) fNil)) fNil)) (bName 3) b_law_together_4) (fRet (fOp (lift2 eqO) (fCall lenO (pCons (fVar 2) fNil)) (fCall lenO (pCons (fVar 1) fNil)))))
def F_law_together : List R → Pw → FRes := runF 7 2 p_law_together
/-! what hangs together -/
def stepT (some : List Int) (found : List Int) (p : Int × Int) : List Int := if p.1 ∈ some ∧ p.2 ∈ some ∧ ¬ ((p.1 ∈ found) ↔ (p.2 ∈ found)) then found ++ [p.1, p.2].filter (fun x => decide (x ∉ found)) else found
def passT (ties : List (Int × Int)) (some found : List Int) : List Int := ties.foldl (stepT some) found
def itT (ties : List (Int × Int)) (some found : List Int) : Nat → List Int
  | 0 => found
  | n + 1 => passT ties some (itT ties some found n)
def clT (ties : List (Int × Int)) (some : List Int) (x : Int) : List Int := itT ties some [x] some.length
def OkF (some found : List Int) : Prop := found.Nodup ∧ ∀ x ∈ found, x ∈ some
/-! ### the walks -/
end DL

noncomputable section
namespace DL
open PySem L2

@[simp] theorem x_isT_dict {kvs : List (PyData × PyData)} {m : String} : isT m (.dict kvs) = (m == "dict") := by simp [isT, isN, tyN]
def isI : PyData → Bool | .int _ => true | _ => false
def nameB : PyData → Bool | .int n => decide (0 ≤ n) | _ => false
theorem is_number_any {d : PyData} {w : Pw} : F_is_number [.val d] w = .ok (.val (.bool (isI d))) w := by
  unfold F_is_number p_is_number
  simp only [x_runF]
  cases d <;> simp -implicitDefEqProofs [isI]
theorem nub_of {ns : List Int} : ∀ i, i ≤ ns.length → (PyProof.Rows.firstMet (fun i => ns.getD i 0) i).length = i → PyProof.Rows.firstMet (fun i => ns.getD i 0) i = ns.take i ∧ (ns.take i).Nodup
  | 0, _, _ => by simp [PyProof.Rows.firstMet_zero]
  | i + 1, hi, h => by
    have hle := PyProof.Rows.firstMet_length_le (fun i => ns.getD i 0) i
    rw [PyProof.Rows.firstMet_succ] at h ⊢
    have ex : ns.getD i 0 = ns[i] := by simp [List.getD_eq_getElem?_getD, List.getElem?_eq_getElem (by omega : i < ns.length)]
    rw [ex] at h ⊢
    unfold PyProof.Rows.step_dedup at h ⊢
    by_cases q : ((PyProof.Rows.firstMet (fun i => ns.getD i 0) i).any (· == ns[i])) = true
    · rw [if_pos q] at h
      omega
    · rw [if_neg q] at h ⊢
      simp only [List.length_append, List.length_cons, List.length_nil] at h
      obtain ⟨e1, e2⟩ := nub_of (ns := ns) i (by omega) (by omega)
      rw [e1] at q ⊢
      have et : ns.take (i + 1) = ns.take i ++ [ns[i]] := by rw [List.take_add_one, List.getElem?_eq_getElem (by omega : i < ns.length)]; rfl
      refine ⟨et.symm, ?_⟩
      rw [et, List.nodup_append]
      refine ⟨e2, by simp, fun a ha b hb => ?_⟩
      simp at hb
      subst hb
      rintro rfl
      exact q (List.any_eq_true.mpr ⟨_, ha, by simp⟩)
theorem nub_iff {ns : List Int} : (nubI ns).length = ns.length ↔ ns.Nodup := by
  refine ⟨fun h => ?_, nub_len⟩
  have := (nub_of (ns := ns) ns.length (Nat.le_refl _) h).2
  rwa [List.take_length] at this
theorem nub_dec {ns : List Int} : decide (((nubI ns).length : Int) = (ns.length : Int)) = decide ns.Nodup := by
  rw [decide_eq_decide, ← nub_iff]
  omega
/-! ### what is a list of unlike names -/
theorem nameB_ints : ∀ {ds : List PyData}, ds.all nameB = true → ∃ ns : List Int, ds = ns.map .int ∧ ∀ x ∈ ns, 0 ≤ x
  | [], _ => ⟨[], rfl, by simp⟩
  | d :: ds, h => by
    simp at h
    obtain ⟨ns, rfl, h2⟩ := nameB_ints (ds := ds) (by simpa using h.2)
    cases d with
    | int n => exact ⟨n :: ns, rfl, by
        have h1 : 0 ≤ n := by simpa [nameB] using h.1
        simp [h1]
        exact h2⟩
    | _ => simp [nameB] at h
def unlikeB : PyData → Bool
  | .list ds => match intsD ds with
    | some ns => decide (ns.Nodup ∧ ∀ x ∈ ns, 0 ≤ x)
    | none => false
  | _ => false
theorem intsD_some : ∀ {ds : List PyData} {ns : List Int}, intsD ds = some ns → ds = ns.map .int
  | [], _, h => by cases h; rfl
  | .int n :: ds, ns, h => by
    unfold intsD at h
    cases q : intsD ds with
    | none => rw [q] at h; cases h
    | some ms => rw [q] at h; cases h; rw [intsD_some q]; rfl
  | .none :: _, _, h | .bool _ :: _, _, h | .str _ :: _, _, h | .list _ :: _, _, h | .tuple _ :: _, _, h | .dict _ :: _, _, h => by unfold intsD at h; cases h
theorem names_iff {ds : List PyData} : ds.all nameB = true ↔ ∃ ns : List Int, intsD ds = some ns ∧ ∀ x ∈ ns, 0 ≤ x := by
  constructor
  · intro h
    obtain ⟨ns, rfl, h2⟩ := nameB_ints h
    exact ⟨ns, intsD_map ns, h2⟩
  · rintro ⟨ns, h, h2⟩
    rw [intsD_some h]
    simpa [nameB] using h2
def lenOk (d : PyData) : Prop := match d with | .list ds => ds.length ≤ 4000 | _ => True
theorem unlike_any {d : PyData} {w : Pw} (hl : lenOk d) : F_are_unlike_names [.val d] w = .ok (.val (.bool (unlikeB d))) w := by
  cases d with
  | list ds =>
    have hl : ds.length ≤ 4000 := hl
    have e : fLc (fLstI (fVar 0)) (bName 1) fYes e_are_unlike_names_1 [1] ⟨[.val (.list ds), .no], w⟩ = .ok (.new (ds.map fun x => .bool (nameB x))) ⟨[.val (.list ds), .no], w⟩ := by
      refine lc_all (fun a : PyData => ⟨[.val (.list ds), .val a], w⟩) _ (f := id) (l := ds) (by simp -implicitDefEqProofs) (by omega) rfl (fun a _ => by rfl) (fun a _ => by rfl) (fun a _ => ?_)
      unfold e_are_unlike_names_1
      cases a <;> simp -implicitDefEqProofs [is_number_any, isI, nameB]
    by_cases h : ds.all nameB = true
    · obtain ⟨ns, e1, e2⟩ := names_iff.mp h
      have h' : (ds.map nameB).all id = true := by simpa using h
      have el : ds.length = ns.length := by rw [intsD_some e1]; simp
      have eu : unlikeB (.list ds) = decide ns.Nodup := by
        show (match intsD ds with | some ns => decide (ns.Nodup ∧ ∀ x ∈ ns, 0 ≤ x) | none => false) = _
        rw [e1]
        simp
        exact fun _ => e2
      have hl2 : ns.length ≤ 4000 := by omega
      have en := nub_dec (ns := ns)
      unfold F_are_unlike_names p_are_unlike_names
      simp only [x_runF]
      simp -implicitDefEqProofs [e, boolsD_map', h', e1, hl2, el, en, eu]
    · have h' : (ds.map nameB).all id = false := by simpa using h
      have eu : unlikeB (.list ds) = false := by
        rw [Bool.eq_false_iff]
        intro z
        unfold unlikeB at z
        dsimp only at z
        split at z
        · rename_i ns e1
          exact h (names_iff.mpr ⟨ns, e1, (of_decide_eq_true z).2⟩)
        · cases z
      unfold F_are_unlike_names p_are_unlike_names
      simp only [x_runF]
      simp -implicitDefEqProofs [e, boolsD_map', h', eu]
  | _ =>
    unfold F_are_unlike_names p_are_unlike_names
    simp only [x_runF]
    simp -implicitDefEqProofs [unlikeB]

instance (ns : List Int) : Decidable (Rank ns) := Classical.propDecidable _
def rankB : PyData → Bool
  | .list ds => match intsD ds with
    | some ns => decide (Rank ns)
    | none => false
  | _ => false
theorem rankB_ints {ns : List Int} : rankB (.list (ns.map .int)) = decide (Rank ns) := by
  show (match intsD (ns.map .int) with | some ns => decide (Rank ns) | none => false) = _
  rw [intsD_map]
theorem rankB_some {d : PyData} (h : rankB d = true) : ∃ ns : List Int, d = .list (ns.map .int) ∧ Rank ns := by
  cases d with
  | list ds =>
    have h : (match intsD ds with | some ns => decide (Rank ns) | none => false) = true := h
    split at h
    · rename_i ns e
      exact ⟨ns, by rw [intsD_some e], of_decide_eq_true h⟩
    · cases h
  | _ => cases h
theorem is_ranking_any {d : PyData} {w : Pw} (hl : lenOk d) : F_is_ranking [.val d] w = .ok (.val (.bool (rankB d))) w := by
  have hu := unlike_any (w := w) hl
  cases d with
  | list ds =>
    have hl : ds.length ≤ 4000 := hl
    cases e : intsD ds with
    | none =>
      have e1 : unlikeB (.list ds) = false := by
        show (match intsD ds with | some ns => decide (ns.Nodup ∧ ∀ x ∈ ns, 0 ≤ x) | none => false) = _
        rw [e]
      have e2 : rankB (.list ds) = false := by
        show (match intsD ds with | some ns => decide (Rank ns) | none => false) = _
        rw [e]
      rw [e1] at hu
      unfold F_is_ranking p_is_ranking
      simp only [x_runF]
      simp -implicitDefEqProofs [hu, e2]
    | some ns =>
      obtain rfl := intsD_some e
      have e1 : unlikeB (.list (ns.map .int)) = decide (ns.Nodup ∧ ∀ x ∈ ns, 0 ≤ x) := by
        show (match intsD (ns.map .int) with | some ns => decide (ns.Nodup ∧ ∀ x ∈ ns, 0 ≤ x) | none => false) = _
        rw [e]
      rw [e1] at hu
      rw [rankB_ints]
      by_cases h1 : ns.Nodup ∧ ∀ x ∈ ns, 0 ≤ x
      · have hd : decide (ns.Nodup ∧ ∀ x ∈ ns, 0 ≤ x) = true := decide_eq_true h1
        rw [hd] at hu
        by_cases h2 : 0 < ns.length
        · have er : decide (Rank ns) = decide ((ns.length : Int) ≤ 10) := by
            rw [decide_eq_decide]
            unfold Rank
            constructor
            · rintro ⟨_, _, _, h⟩; omega
            · intro h; exact ⟨h1.1, h1.2, h2, by omega⟩
          unfold F_is_ranking p_is_ranking
          simp only [x_runF]
          simp -implicitDefEqProofs [hu, h2, er]
        · have er : decide (Rank ns) = false := decide_eq_false fun z => h2 z.2.2.1
          unfold F_is_ranking p_is_ranking
          simp only [x_runF]
          simp -implicitDefEqProofs [hu, h2, er]
      · have hd : decide (ns.Nodup ∧ ∀ x ∈ ns, 0 ≤ x) = false := decide_eq_false h1
        have er : decide (Rank ns) = false := decide_eq_false fun z => h1 ⟨z.1, z.2.1⟩
        rw [hd] at hu
        unfold F_is_ranking p_is_ranking
        simp only [x_runF]
        simp -implicitDefEqProofs [hu, er]
  | _ =>
    unfold F_is_ranking p_is_ranking
    simp only [x_runF]
    simp -implicitDefEqProofs [hu, unlikeB, rankB]

end DL

noncomputable section
namespace DL
open PySem L2

/-! ### falling along a line: the plain law -/
def cvx (L Q : List Int) : Prop := ∀ u ∈ Q, ∀ v ∈ Q, ∀ t ∈ L, L.idxOf u < L.idxOf t → L.idxOf t < L.idxOf v → t ∈ Q
def noV (L r : List Int) : Prop := ∀ u ∈ L, ∀ t ∈ L, ∀ v ∈ L, L.idxOf u < L.idxOf t → L.idxOf t < L.idxOf v → ¬ (r.idxOf u < r.idxOf t ∧ r.idxOf v < r.idxOf t)
def goB (ok : List Int → Int → Bool) : List Int → List Int → Bool
  | _, [] => true
  | Q, a :: l => ok Q a && goB ok (Q ++ [a]) l
/-! least and greatest places -/
def plI (L : List Int) (x : Int) : Int := (L.idxOf x : Nat)
def ok1 (L : List Int) (Q : List Int) (a : Int) : Bool := decide (plI L a = minI (Q.map (plI L)) - 1) || decide (plI L a = maxI (Q.map (plI L)) + 1)
def ok2 (L : List Int) (Q : List Int) (a : Int) : Bool := decide (maxI ((Q ++ [a]).map (plI L)) - minI ((Q ++ [a]).map (plI L)) = ((Q ++ [a]).length : Int) - 1)
end DL

noncomputable section
namespace DL
open PySem L2

/-! rankings that fall, taken from the ends -/
def pick : List Int → List Bool → List Int
  | L, [] => L
  | L, b :: bs => match b with
    | false => L.take 1 ++ pick (L.drop 1) bs
    | true => L.drop (L.length - 1) ++ pick L.dropLast bs
/-! bits and numbers -/
def valA : Nat → List Bool → Nat
  | c, [] => c
  | c, b :: bs => valA (2 * c + b.toNat) bs
def bitsN : Nat → Nat → List Bool
  | 0, _ => []
  | k + 1, n => decide (2 ^ k ≤ n) :: bitsN k (n % 2 ^ k)
end DL

noncomputable section
namespace DL
open PySem L2
def e_cut_down_1 : M R := fOp (lift2 inO) (fVar 2) (fVar 0)
abbrev l_cut_down_1 : M R := fLc (fLstI (fVar 1)) (bName 2) fYes (e_cut_down_1) [2]
def t_cut_down_2 : M Bool := fB (fOp (lift2 inO) (fVar 2) (fVar 1))
def e_cut_down_3 : M R := fVar 2
abbrev l_cut_down_3 : M R := fLc (fLstI (fVar 0)) (bName 2) (t_cut_down_2) (e_cut_down_3) [2]
def p_cut_down : DSt → Flow := fseq (fDrop (fUser F_must_be_ranking (fCons (fVar 0) fNil))) (fseq (fIfS (fOr (fB (fOp (lift2 ltO) (fCall lenO (pCons (fVar 1) fNil)) (fC (.int 1)))) (fNot (fB (fCall allO (pCons (fLc (fLstI (fVar 1)) (bName 2) fYes (e_cut_down_1) [2]) fNil))))) (fRaise "NoNames") fnext) (fRet (fLc (fLstI (fVar 0)) (bName 2) (t_cut_down_2) (e_cut_down_3) [2])))
def F_cut_down : List R → Pw → FRes := runF 3 2 p_cut_down
/-! cutting down -/
def cutL (r some : List Int) : List Int := r.filter fun x => decide (x ∈ some)
end DL

noncomputable section
namespace DL
open PySem L2

/-! what falls is taken from the ends -/
end DL

noncomputable section
namespace DL
open PySem L2
def p_is_line : DSt → Flow := fRet (fUser F_is_ranking (fCons (fVar 0) fNil))
def F_is_line : List R → Pw → FRes := runF 1 1 p_is_line
def p_must_be_line : DSt → Flow := fIfS (fNot (fB (fUser F_is_line (fCons (fVar 0) fNil)))) (fRaise "NoLine") fnext
def F_must_be_line : List R → Pw → FRes := runF 1 1 p_must_be_line
def p_must_be_on : DSt → Flow := fseq (fDrop (fUser F_must_be_line (fCons (fVar 0) fNil))) (fseq (fDrop (fUser F_must_be_ranking (fCons (fVar 1) fNil))) (fIfS (fB (fOp (lift2 neO) (fCall sortedO (pCons (fVar 0) fNil)) (fCall sortedO (pCons (fVar 1) fNil)))) (fRaise "NoFit") fnext))
def F_must_be_on : List R → Pw → FRes := runF 2 2 p_must_be_on
def b_does_fall_1 : DSt → Flow := fseq (fSet 5 (fIndex (fVar 0) (fVar 4))) (fseq (fIfS (fAnd (fB (fOp (lift2 neO) (fVar 5) (fOp (lift2 subO) (fVar 2) (fC (.int 1))))) (fB (fOp (lift2 neO) (fVar 5) (fOp (lift2 addO) (fVar 3) (fC (.int 1)))))) (fRet (fC (.bool false))) fnext) (fseq (fSet 2 (fCall minO (pCons (fVar 2) (pCons (fVar 5) fNil)))) (fSet 3 (fCall maxO (pCons (fVar 3) (pCons (fVar 5) fNil))))))
abbrev o_does_fall_1 : List PyData → DSt → Flow := loopF (bName 4) b_does_fall_1
def p_does_fall : DSt → Flow := fseq (fSet 2 (fIndex (fVar 0) (fOp (lift2 ixO) (fVar 1) (fC (.int 0))))) (fseq (fSet 3 (fVar 2)) (fseq (fFor (fLstI (fSlice (fVar 1) (fPart (fC (.int 1))) fNoPart)) (bName 4) b_does_fall_1) (fRet (fC (.bool true)))))
def F_does_fall : List R → Pw → FRes := runF 6 2 p_does_fall
def p_falls : DSt → Flow := fseq (fDrop (fUser F_must_be_on (fCons (fVar 0) (fCons (fVar 1) fNil)))) (fRet (fUser F_does_fall (fCons (fVar 0) (fCons (fVar 1) fNil))))
def F_falls : List R → Pw → FRes := runF 2 2 p_falls
def b_law_falls_1 : DSt → Flow := fseq (fDrop (fApp 2 (fIndex (fVar 0) (fVar 3)))) (fIfS (fB (fOp (lift2 neO) (fOp (lift2 subO) (fCall maxO (pCons (fVar 2) fNil)) (fCall minO (pCons (fVar 2) fNil))) (fOp (lift2 subO) (fCall lenO (pCons (fVar 2) fNil)) (fC (.int 1))))) (fRet (fC (.bool false))) fnext)
abbrev o_law_falls_1 : List PyData → DSt → Flow := loopF (bName 3) b_law_falls_1
def p_law_falls : DSt → Flow := fseq (fSet 2 (fLst fNil)) (fseq (fFor (fLstI (fVar 1)) (bName 3) b_law_falls_1) (fRet (fC (.bool true))))
def F_law_falls : List R → Pw → FRes := runF 4 2 p_law_falls
def c_law_falling_1 : M Bool := fB (fOp (lift2 neO) (fVar 2) (fLst fNil))
def b_law_falling_2 : DSt → Flow := fDrop (fApp 3 (fPopAt 2 (fOp (lift2 mulO) (fOp (lift2 subO) (fCall lenO (pCons (fVar 2) fNil)) (fC (.int 1))) (fUser F_law_draw (fCons (fVar 0) (fCons (fC (.int 2)) fNil))))))
abbrev o_law_falling_2 : DSt → Flow := whileF c_law_falling_1 b_law_falling_2 10000
def p_law_falling : DSt → Flow := fseq (fSet 2 (fCall listO (pCons (fVar 1) fNil))) (fseq (fSet 3 (fLst fNil)) (fseq (whileF c_law_falling_1 b_law_falling_2 10000) (fRet (fUn (lift1 revO) (fVar 3)))))
def F_law_falling : List R → Pw → FRes := runF 4 2 p_law_falling
def fallB (L r : List Int) : Bool := @decide (noV L r) (Classical.propDecidable _)
end DL

noncomputable section
namespace DL
open PySem L2
def e_grown_1 : M R := fOp (lift2 addO) (fLst (fCons (fVar 2) fNil)) (fVar 3)
abbrev l_grown_1 : M R := fLc (fLstI (fVar 1)) (bName 3) fYes (e_grown_1) [3]
def e_grown_2 : M R := fOp (lift2 addO) (fVar 3) (fLst (fCons (fVar 2) fNil))
abbrev l_grown_2 : M R := fLc (fLstI (fVar 1)) (bName 3) fYes (e_grown_2) [3]
def b_grown_3 : DSt → Flow := fSet 1 (fOp (lift2 addO) (fLc (fLstI (fVar 1)) (bName 3) fYes (e_grown_1) [3]) (fLc (fLstI (fVar 1)) (bName 3) fYes (e_grown_2) [3]))
abbrev o_grown_3 : List PyData → DSt → Flow := loopF (bName 2) b_grown_3
def p_grown : DSt → Flow := fseq (fSet 1 (fLst (fCons (fSlice (fVar 0) fNoPart (fPart (fC (.int 1)))) fNil))) (fseq (fFor (fLstI (fSlice (fVar 0) (fPart (fC (.int 1))) fNoPart)) (bName 2) b_grown_3) (fRet (fCall sortedO (pCons (fVar 1) fNil))))
def F_grown : List R → Pw → FRes := runF 4 1 p_grown
def e_is_folk_1 : M R := fUser F_is_ranking (fCons (fVar 1) fNil)
abbrev l_is_folk_1 : M R := fLc (fLstI (fVar 0)) (bName 1) fYes (e_is_folk_1) [1]
def e_is_folk_2 : M R := fOp (lift2 eqO) (fCall sortedO (pCons (fVar 1) fNil)) (fCall sortedO (pCons (fOp (lift2 ixO) (fVar 0) (fC (.int 0))) fNil))
abbrev l_is_folk_2 : M R := fLc (fLstI (fVar 0)) (bName 1) fYes (e_is_folk_2) [1]
def p_is_folk : DSt → Flow := fseq (fIfS (fOr (fNot (fB (fIsi "list" (fVar 0)))) (fOr (fB (fOp (lift2 ltO) (fCall lenO (pCons (fVar 0) fNil)) (fC (.int 1)))) (fB (fOp (lift2 gtO) (fCall lenO (pCons (fVar 0) fNil)) (fC (.int 20)))))) (fRet (fC (.bool false))) fnext) (fseq (fIfS (fNot (fB (fCall allO (pCons (fLc (fLstI (fVar 0)) (bName 1) fYes (e_is_folk_1) [1]) fNil)))) (fRet (fC (.bool false))) fnext) (fRet (fCall allO (pCons (fLc (fLstI (fVar 0)) (bName 1) fYes (e_is_folk_2) [1]) fNil))))
def F_is_folk : List R → Pw → FRes := runF 2 1 p_is_folk
def p_must_be_folk : DSt → Flow := fIfS (fNot (fB (fUser F_is_folk (fCons (fVar 0) fNil)))) (fRaise "NoFolk") fnext
def F_must_be_folk : List R → Pw → FRes := runF 1 1 p_must_be_folk
def e_lines_for_1 : M R := fUser F_does_fall (fCons (fVar 1) (fCons (fVar 2) fNil))
abbrev l_lines_for_1 : M R := fLc (fLstI (fVar 0)) (bName 2) fYes (e_lines_for_1) [2]
def t_lines_for_2 : M Bool := fB (fCall allO (pCons (fLc (fLstI (fVar 0)) (bName 2) fYes (e_lines_for_1) [2]) fNil))
def e_lines_for_3 : M R := fVar 1
abbrev l_lines_for_3 : M R := fLc (fLstI (fUser F_grown (fCons (fOp (lift2 ixO) (fVar 0) (fC (.int 0))) fNil))) (bName 1) (t_lines_for_2) (e_lines_for_3) [1]
def p_lines_for : DSt → Flow := fRet (fLc (fLstI (fUser F_grown (fCons (fOp (lift2 ixO) (fVar 0) (fC (.int 0))) fNil))) (bName 1) (t_lines_for_2) (e_lines_for_3) [1])
def F_lines_for : List R → Pw → FRes := runF 3 1 p_lines_for
def p_all_lines : DSt → Flow := fseq (fDrop (fUser F_must_be_folk (fCons (fVar 0) fNil))) (fRet (fUser F_lines_for (fCons (fVar 0) fNil)))
def F_all_lines : List R → Pw → FRes := runF 1 1 p_all_lines
/-! lines made from the best name outwards -/
def grS (F : List (List Int)) (a : Int) : List (List Int) := F.map (fun l => a :: l) ++ F.map fun l => l ++ [a]
def grL (r : List Int) : List (List Int) := (r.drop 1).foldl grS [r.take 1]
def grownL (r : List Int) : List (List Int) := sortLL (grL r)
end DL

noncomputable section
namespace DL
open PySem L2

def Folk (f : List (List Int)) : Prop := 0 < f.length ∧ f.length ≤ 20 ∧ ∀ r ∈ f, Rank r ∧ ∀ q ∈ f, q.Perm r
theorem folk_at0 {f : List (List Int)} (h : 0 < f.length) : (f.map llD)[0]? = some (llD (f.headD [])) := by
  cases f with
  | nil => simp at h
  | cons a f => rfl
theorem head_mem {f : List (List Int)} (h : 0 < f.length) : f.headD [] ∈ f := by
  cases f with
  | nil => simp at h
  | cons a f => exact List.mem_cons_self
theorem is_folk_ok {f : List (List Int)} {w : Pw} (h : Folk f) : F_is_folk [.val (.list ((f).map llD))] w = .ok (.val (.bool true)) w := by
  obtain ⟨h0, h1, h2⟩ := h
  obtain ⟨a, f', rfl⟩ := List.exists_cons_of_ne_nil (List.length_pos_iff.mp h0)
  obtain ⟨f, hf⟩ : ∃ f, f = a :: f' := ⟨_, rfl⟩
  rw [← hf] at h0 h1 h2 ⊢
  have ma : a ∈ f := by rw [hf]; exact List.mem_cons_self
  have e0 : (f.map llD)[0]? = some (llD a) := by rw [hf]; rfl
  have e0' : f[0]? = some a := by rw [hf]; rfl
  have e1 : l_is_folk_1 ⟨[.val (.list ((f).map llD)), .no], w⟩ = .ok (.new (f.map fun _ => .bool true)) ⟨[.val (.list ((f).map llD)), .no], w⟩ := by
    refine lc_all (fun x : List Int => ⟨[.val (.list ((f).map llD)), .val (llD x)], w⟩) _ (f := llD) (l := f) (by simp -implicitDefEqProofs) (by omega) rfl (fun a _ => by rfl) (fun a _ => by rfl) (fun x hx => ?_)
    unfold e_is_folk_1
    simp -implicitDefEqProofs [llD, is_ranking_ok (h2 x hx).1]
  have e2 : l_is_folk_2 ⟨[.val (.list ((f).map llD)), .no], w⟩ = .ok (.new (f.map fun _ => .bool true)) ⟨[.val (.list ((f).map llD)), .no], w⟩ := by
    refine lc_all (fun x : List Int => ⟨[.val (.list ((f).map llD)), .val (llD x)], w⟩) _ (f := llD) (l := f) (by simp -implicitDefEqProofs) (by omega) rfl (fun a _ => by rfl) (fun a _ => by rfl) (fun x hx => ?_)
    have hs := sortI_perm_eq ((h2 x hx).2 a ma)
    unfold e_is_folk_2
    simp -implicitDefEqProofs [e0', llD, hs]
  have eb : boolsD (f.map fun _ => PyData.bool true) = some (f.map fun _ => true) := boolsD_map' (f := fun _ => true)
  have ea : (f.map fun _ => true).all id = true := by simp
  have c1 : ¬ ((f.length : Nat) : Int) < 1 := by omega
  have c2 : ¬ (20 : Int) < (f.length : Nat) := by omega
  have c3 : f ≠ [] := by rw [hf]; simp
  unfold F_is_folk p_is_folk
  simp only [x_runF]
  simp -implicitDefEqProofs [e1, e2, eb, ea, c1, c2, c3]
theorem must_folk_ok {f : List (List Int)} {w : Pw} (h : Folk f) : F_must_be_folk [.val (.list ((f).map llD))] w = .ok (.val .none) w := by
  unfold F_must_be_folk p_must_be_folk
  simp only [x_runF]
  simp -implicitDefEqProofs [is_folk_ok h]
def linesF (f : List (List Int)) : List (List Int) := (grownL (f.headD [])).filter fun ℓ => f.all fun r => fallB ℓ r
end DL

noncomputable section
namespace DL
open PySem L2

def bdd : Nat → PyData → Prop
  | _, .none | _, .bool _ | _, .int _ | _, .str _ => True
  | n + 1, .list ds => ds.length ≤ 1000 ∧ ∀ d ∈ ds, bdd n d
  | n + 1, .tuple ds => ds.length ≤ 1000 ∧ ∀ d ∈ ds, bdd n d
  | _, _ => False
@[simp] theorem bdd_none {n : Nat} : bdd n .none := by cases n <;> simp [bdd]
@[simp] theorem bdd_bool {n : Nat} {b : Bool} : bdd n (.bool b) := by cases n <;> simp [bdd]
@[simp] theorem bdd_int {n : Nat} {b : Int} : bdd n (.int b) := by cases n <;> simp [bdd]
@[simp] theorem bdd_str {n : Nat} {b : Str} : bdd n (.str b) := by cases n <;> simp [bdd]
@[simp] theorem bdd_list {n : Nat} {ds : List PyData} : bdd (n + 1) (.list ds) ↔ ds.length ≤ 1000 ∧ ∀ d ∈ ds, bdd n d := by simp [bdd]
@[simp] theorem bdd_tuple {n : Nat} {ds : List PyData} : bdd (n + 1) (.tuple ds) ↔ ds.length ≤ 1000 ∧ ∀ d ∈ ds, bdd n d := by simp [bdd]
theorem bdd_up : ∀ {n m : Nat} {d : PyData}, n ≤ m → bdd n d → bdd m d
  | n, m, .none, _, _ => by simp
  | n, m, .bool _, _, _ => by simp
  | n, m, .int _, _, _ => by simp
  | n, m, .str _, _, _ => by simp
  | n + 1, m + 1, .list ds, h, b => by
    rw [bdd_list] at b ⊢
    exact ⟨b.1, fun d hd => bdd_up (by omega) (b.2 d hd)⟩
  | n + 1, m + 1, .tuple ds, h, b => by
    rw [bdd_tuple] at b ⊢
    exact ⟨b.1, fun d hd => bdd_up (by omega) (b.2 d hd)⟩
  | 0, _, .list ds, _, b => by unfold bdd at b; exact b.elim
  | 0, _, .tuple ds, _, b => by unfold bdd at b; exact b.elim
  | 0, _, .dict _, _, b => by unfold bdd at b; exact b.elim
  | _ + 1, _, .dict _, _, b => by unfold bdd at b; exact b.elim
  | _ + 1, 0, .list _, h, _ => by omega
  | _ + 1, 0, .tuple _, h, _ => by omega
theorem plainAll_of {ds : List PyData} (h : ∀ d ∈ ds, d.plain = true) : PyData.plainAll ds = true := by
  induction ds with
  | nil => rfl
  | cons d ds ih => simp [PyData.plainAll, h d List.mem_cons_self, ih fun d hd => h d (List.mem_cons_of_mem _ hd)]
theorem bdd_plain : ∀ {n : Nat} {d : PyData}, bdd n d → d.plain = true
  | _, .none, _ | _, .bool _, _ | _, .int _, _ | _, .str _, _ => rfl
  | n + 1, .list ds, b => by
    rw [bdd_list] at b
    simp only [PyData.plain]
    exact plainAll_of fun d hd => bdd_plain (b.2 d hd)
  | n + 1, .tuple ds, b => by
    rw [bdd_tuple] at b
    simp only [PyData.plain]
    exact plainAll_of fun d hd => bdd_plain (b.2 d hd)
  | 0, .list ds, b => by unfold bdd at b; exact b.elim
  | 0, .tuple ds, b => by unfold bdd at b; exact b.elim
  | 0, .dict _, b => by unfold bdd at b; exact b.elim
  | _ + 1, .dict _, b => by unfold bdd at b; exact b.elim
theorem bdd_dep : ∀ {n : Nat} {d : PyData}, bdd n d → d.depth ≤ n
  | _, .none, _ | _, .bool _, _ | _, .int _, _ | _, .str _, _ => by simp [PyData.depth]
  | n + 1, .list ds, b => by
    rw [bdd_list] at b
    have : PyData.depthAll ds ≤ n := depthAll_le.mpr fun d hd => bdd_dep (b.2 d hd)
    simp [PyData.depth]
    omega
  | n + 1, .tuple ds, b => by
    rw [bdd_tuple] at b
    have : PyData.depthAll ds ≤ n := depthAll_le.mpr fun d hd => bdd_dep (b.2 d hd)
    simp [PyData.depth]
    omega
  | 0, .list ds, b => by unfold bdd at b; exact b.elim
  | 0, .tuple ds, b => by unfold bdd at b; exact b.elim
  | 0, .dict _, b => by unfold bdd at b; exact b.elim
  | _ + 1, .dict _, b => by unfold bdd at b; exact b.elim
theorem bdd_len {n : Nat} {d : PyData} (b : bdd n d) : lenOk d := by
  cases d with
  | list ds =>
    cases n with
    | zero => unfold bdd at b; exact b.elim
    | succ n => rw [bdd_list] at b; exact Nat.le_trans b.1 (by omega)
  | _ => trivial
theorem bdd_items {n : Nat} {ds : List PyData} (b : bdd n (.list ds)) : ∀ d ∈ ds, bdd n d := by
  cases n with
  | zero => unfold bdd at b; exact b.elim
  | succ n => rw [bdd_list] at b; exact fun d hd => bdd_up (Nat.le_succ n) (b.2 d hd)
theorem bdd_litems {n : Nat} {ds : List PyData} (b : bdd n (.list ds)) : ds.length ≤ 1000 := by
  cases n with
  | zero => unfold bdd at b; exact b.elim
  | succ n => rw [bdd_list] at b; exact b.1
theorem neO_self {n : Nat} {d : PyData} (b : bdd n d) (hn : n ≤ 60) : neO d d = some (.val (.bool false)) := by
  unfold neO
  have := bdd_dep b
  rw [if_pos (by rw [Nat.min_self]; omega), PySem.SeqAt.eqv_refl_plain d (bdd_plain b)]
  rfl
/-! ### a folk -/
def folkB (d : PyData) : Bool := @decide (∃ f : List (List Int), d = .list (f.map llD) ∧ Folk f) (Classical.propDecidable _)
theorem folkB_iff {d : PyData} : folkB d = true ↔ ∃ f : List (List Int), d = .list (f.map llD) ∧ Folk f := by simp [folkB]
theorem rank_all : ∀ {ds : List PyData}, ds.all rankB = true → ∃ f : List (List Int), ds = f.map llD ∧ ∀ r ∈ f, Rank r
  | [], _ => ⟨[], rfl, by simp⟩
  | d :: ds, h => by
    simp only [List.all_cons, Bool.and_eq_true] at h
    obtain ⟨ns, rfl, hr⟩ := rankB_some h.1
    obtain ⟨f, rfl, hf⟩ := rank_all h.2
    exact ⟨ns :: f, rfl, fun r hm => by
      rcases List.mem_cons.mp hm with rfl | hm
      · exact hr
      · exact hf r hm⟩
theorem sortI_inj {a b : List Int} (h : sortI a = sortI b) : a.Perm b := (sortI_perm a).symm.trans (h ▸ sortI_perm b)
theorem is_folk_any {n : Nat} {d : PyData} {w : Pw} (b : bdd n d) : F_is_folk [.val d] w = .ok (.val (.bool (folkB d))) w := by
  by_cases hF : ∃ f : List (List Int), d = .list (f.map llD) ∧ Folk f
  · obtain ⟨f, rfl, hf⟩ := hF
    rw [folkB_iff.mpr ⟨f, rfl, hf⟩]
    exact is_folk_ok hf
  have hB : folkB d = false := by
    rw [Bool.eq_false_iff]
    exact fun z => hF (folkB_iff.mp z)
  rw [hB]
  cases d with
  | list ds =>
    have hl := bdd_litems b
    by_cases c1 : ((ds.length : Nat) : Int) < 1
    · unfold F_is_folk p_is_folk
      simp only [x_runF]
      simp -implicitDefEqProofs [c1]
    by_cases c2 : (20 : Int) < (ds.length : Nat)
    · unfold F_is_folk p_is_folk
      simp only [x_runF]
      simp -implicitDefEqProofs [c1, c2]
    have e1 : l_is_folk_1 ⟨[.val (.list ds), .no], w⟩ = .ok (.new (ds.map fun x => .bool (rankB x))) ⟨[.val (.list ds), .no], w⟩ := by
      refine lc_all (fun x : PyData => ⟨[.val (.list ds), .val x], w⟩) _ (f := id) (l := ds) (by simp -implicitDefEqProofs) (by omega) rfl (fun a _ => by rfl) (fun a _ => by rfl) (fun x hx => ?_)
      unfold e_is_folk_1
      simp -implicitDefEqProofs [is_ranking_any (bdd_len (bdd_items b x hx))]
    by_cases ha : ds.all rankB = true
    · have ha' : (ds.map rankB).all id = true := by simpa using ha
      obtain ⟨f, rfl, hf⟩ := rank_all ha
      have hl2 : f.length = (f.map llD).length := by simp
      have h0 : 0 < f.length := by omega
      obtain ⟨a, ea⟩ : ∃ a, f[0]? = some a := ⟨f[0], List.getElem?_eq_getElem h0⟩
      have e2 : l_is_folk_2 ⟨[.val (.list ((f).map llD)), .no], w⟩ = .ok (.new (f.map fun x => .bool (decide (sortI x = sortI a)))) ⟨[.val (.list ((f).map llD)), .no], w⟩ := by
        refine lc_all (fun x : List Int => ⟨[.val (.list ((f).map llD)), .val (llD x)], w⟩) _ (f := llD) (l := f) (by simp -implicitDefEqProofs) (by omega) rfl (fun a _ => by rfl) (fun a _ => by rfl) (fun x hx => ?_)
        unfold e_is_folk_2
        simp -implicitDefEqProofs [ea, llD]
      have hn : (f.map fun x => decide (sortI x = sortI a)).all id = false := by
        rw [Bool.eq_false_iff]
        intro z
        simp at z
        refine hF ⟨f, rfl, h0, by omega, fun r hr => ⟨hf r hr, fun q hq => ?_⟩⟩
        exact sortI_inj ((z q hq).trans (z r hr).symm)
      have e1' : l_is_folk_1 ⟨[.val (.list ((f).map llD)), .no], w⟩ = .ok (.new (f.map fun _ => .bool true)) ⟨[.val (.list ((f).map llD)), .no], w⟩ := by
        rw [e1, List.map_map]
        congr 2
        refine List.map_congr_left fun r hr => ?_
        show PyData.bool (rankB (.list (r.map .int))) = _
        rw [rankB_ints, decide_eq_true (hf r hr)]
      have eb : boolsD (f.map fun _ => PyData.bool true) = some (f.map fun _ => true) := boolsD_map' (f := fun _ => true)
      have et : (f.map fun _ => true).all id = true := by simp
      rw [← hl2] at c1 c2
      unfold F_is_folk p_is_folk
      simp only [x_runF]
      simp -implicitDefEqProofs [c1, c2, e1', eb, et, boolsD_map', e2, hn]
    · have ha' : (ds.map rankB).all id = false := by simpa using ha
      unfold F_is_folk p_is_folk
      simp only [x_runF]
      simp -implicitDefEqProofs [c1, c2, e1, boolsD_map', ha']
  | _ =>
    unfold F_is_folk p_is_folk
    simp only [x_runF]
    simp -implicitDefEqProofs

end DL

noncomputable section
namespace DL
open PySem L2
def p_is_tie : DSt → Flow := fseq (fIfS (fOr (fNot (fB (fIsi "tuple" (fVar 1)))) (fOr (fB (fOp (lift2 neO) (fCall lenO (pCons (fVar 1) fNil)) (fC (.int 2)))) (fOr (fNot (fB (fUser F_is_number (fCons (fOp (lift2 ixO) (fVar 1) (fC (.int 0))) fNil)))) (fNot (fB (fUser F_is_number (fCons (fOp (lift2 ixO) (fVar 1) (fC (.int 1))) fNil))))))) (fRet (fC (.bool false))) fnext) (fRet (fAndV (fOp (lift2 ltO) (fOp (lift2 ixO) (fVar 1) (fC (.int 0))) (fOp (lift2 ixO) (fVar 1) (fC (.int 1)))) (fAndV (fOp (lift2 inO) (fOp (lift2 ixO) (fVar 1) (fC (.int 0))) (fVar 0)) (fOp (lift2 inO) (fOp (lift2 ixO) (fVar 1) (fC (.int 1))) (fVar 0)))))
def F_is_tie : List R → Pw → FRes := runF 2 2 p_is_tie
def e_is_right_tree_v2_1 : M R := fUser F_is_tie (fCons (fVar 0) (fCons (fVar 2) fNil))
abbrev l_is_right_tree_v2_1 : M R := fLc (fLstI (fVar 1)) (bName 2) fYes (e_is_right_tree_v2_1) [2]
def p_is_right_tree_v2 : DSt → Flow := fseq (fIfS (fOr (fNot (fB (fIsi "list" (fVar 1)))) (fOr (fB (fOp (lift2 neO) (fCall lenO (pCons (fVar 1) fNil)) (fOp (lift2 subO) (fCall lenO (pCons (fVar 0) fNil)) (fC (.int 1))))) (fNot (fB (fCall allO (pCons (fLc (fLstI (fVar 1)) (bName 2) fYes (e_is_right_tree_v2_1) [2]) fNil)))))) (fRet (fC (.bool false))) fnext) (fRet (fAndV (fOp (lift2 eqO) (fVar 1) (fSortSetP (fVar 1))) (fUser F_hang_together (fCons (fVar 1) (fCons (fVar 0) fNil)))))
def F_is_right_tree_v2 : List R → Pw → FRes := runF 3 2 p_is_right_tree_v2
def p_law_whole : DSt → Flow := fRet (fAndV (fIsi "int" (fVar 0)) (fV (fNot (fB (fIsi "bool" (fVar 0))))))
def F_law_whole : List R → Pw → FRes := runF 1 1 p_law_whole
def b_law_is_tree_v2_1 : DSt → Flow := fseq (fIfS (fOr (fNot (fB (fIsi "tuple" (fVar 2)))) (fOr (fB (fOp (lift2 neO) (fCall lenO (pCons (fVar 2) fNil)) (fC (.int 2)))) (fOr (fNot (fB (fUser F_law_whole (fCons (fOp (lift2 ixO) (fVar 2) (fC (.int 0))) fNil)))) (fNot (fB (fUser F_law_whole (fCons (fOp (lift2 ixO) (fVar 2) (fC (.int 1))) fNil))))))) (fRet (fC (.bool false))) fnext) (fIfS (fOr (fB (fOp (lift2 geO) (fOp (lift2 ixO) (fVar 2) (fC (.int 0))) (fOp (lift2 ixO) (fVar 2) (fC (.int 1))))) (fOr (fB (fOp (lift2 notInO) (fOp (lift2 ixO) (fVar 2) (fC (.int 0))) (fVar 0))) (fB (fOp (lift2 notInO) (fOp (lift2 ixO) (fVar 2) (fC (.int 1))) (fVar 0))))) (fRet (fC (.bool false))) fnext)
abbrev o_law_is_tree_v2_1 : List PyData → DSt → Flow := loopF (bName 2) b_law_is_tree_v2_1
def p_law_is_tree_v2 : DSt → Flow := fseq (fIfS (fOr (fNot (fB (fIsi "list" (fVar 1)))) (fB (fOp (lift2 neO) (fCall lenO (pCons (fVar 1) fNil)) (fOp (lift2 subO) (fCall lenO (pCons (fVar 0) fNil)) (fC (.int 1)))))) (fRet (fC (.bool false))) fnext) (fseq (fFor (fLstI (fVar 1)) (bName 2) b_law_is_tree_v2_1) (fRet (fAndV (fOp (lift2 eqO) (fVar 1) (fSortSetP (fVar 1))) (fUser F_law_together (fCons (fVar 1) (fCons (fVar 0) fNil))))))
def F_law_is_tree_v2 : List R → Pw → FRes := runF 3 2 p_law_is_tree_v2
/-! trees looked at, whatever they are -/
def tieB (N : List Int) : PyData → Bool
  | .tuple [.int a, .int b] => decide (a < b ∧ a ∈ N ∧ b ∈ N)
  | _ => false
def TreeP (N : List Int) (ps : List (Int × Int)) : Prop := ps.length + 1 = N.length ∧ (∀ p ∈ ps, p.1 < p.2 ∧ p.1 ∈ N ∧ p.2 ∈ N) ∧ ps.Pairwise ltP ∧ (clT ps N (N.headD 0)).length = N.length
instance (N : List Int) (ps : List (Int × Int)) : Decidable (TreeP N ps) := Classical.propDecidable _
def treeB (N : List Int) : PyData → Bool
  | .list ds => match pairsD ds with
    | some ps => decide (TreeP N ps)
    | none => false
  | _ => false
theorem ixN_in {n i : Nat} (h : i < n) : ixN n (i : Int) = some i := by
  unfold ixN
  rw [if_pos (by omega), if_pos (by omega)]
  simp
end DL

noncomputable section
namespace DL
open PySem L2
def e_law_copied_1 (rec : List R → Pw → FRes) : M R := fUser rec (fCons (fVar 1) fNil)
abbrev l_law_copied_1 (rec : List R → Pw → FRes) : M R := fLc (fLstI (fVar 0)) (bName 1) fYes ((e_law_copied_1 rec)) [1]
def e_law_copied_2 (rec : List R → Pw → FRes) : M R := fUser rec (fCons (fVar 1) fNil)
abbrev l_law_copied_2 (rec : List R → Pw → FRes) : M R := fLc (fLstI (fVar 0)) (bName 1) fYes ((e_law_copied_2 rec)) [1]
def p_law_copied (rec : List R → Pw → FRes) : DSt → Flow := fseq (fIfS (fB (fIsi "tuple" (fVar 0))) (fRet (fCall tupleO (pCons (fLc (fLstI (fVar 0)) (bName 1) fYes ((e_law_copied_1 rec)) [1]) fNil))) fnext) (fseq (fIfS (fB (fIsi "list" (fVar 0))) (fRet (fLc (fLstI (fVar 0)) (bName 1) fYes ((e_law_copied_2 rec)) [1])) fnext) (fRet (fVar 0)))
def F_law_copied : Nat → List R → Pw → FRes
  | 0 => runF 2 1 fnever
  | m + 1 => runF 2 1 (p_law_copied (F_law_copied m))
/-! copies -/
@[simp] theorem atI_litC {α : Type} {xs : List α} {k : Nat} : atI xs (no_index (OfNat.ofNat k)) = xs[k]? := by
  show atI xs ((k : Nat) : Int) = _
  exact atI_nat
def cpC : PyData → R
  | .list ds => .new ds
  | d => .val d
theorem esc_cpC {d : PyData} {s : DSt} : esc (cpC d) s = some (.val d, s) := by cases d <;> rfl
theorem copC_ok : ∀ {n m : Nat} {d : PyData} {w : Pw}, bdd n d → n < m → F_law_copied m [.val d] w = .ok (cpC d) w
  | n, 0, _, _, _, h => by omega
  | n, m + 1, d, w, b, h => by
    have ih : ∀ {k : Nat} {x : PyData}, bdd k x → k < m → ∀ w, F_law_copied m [.val x] w = .ok (cpC x) w := fun b h w => copC_ok b h
    unfold F_law_copied p_law_copied
    simp only [x_runF]
    cases d with
    | list ds =>
      cases n with
      | zero => unfold bdd at b; exact b.elim
      | succ n =>
        rw [bdd_list] at b
        have e : l_law_copied_2 (F_law_copied m) ⟨[.val (.list ds), .no], w⟩ = .ok (.new (ds.map id)) ⟨[.val (.list ds), .no], w⟩ := by
          refine lc_all (fun x : PyData => ⟨[.val (.list ds), .val x], w⟩) _ (f := id) (l := ds) (by simp -implicitDefEqProofs) (by omega) rfl (fun a _ => by rfl) (fun a _ => by rfl) (fun x hx => ?_)
          unfold e_law_copied_2
          simp -implicitDefEqProofs [ih (b.2 x hx) (by omega), esc_cpC]
        rw [List.map_id] at e
        simp -implicitDefEqProofs [e, cpC]
    | tuple ds =>
      cases n with
      | zero => unfold bdd at b; exact b.elim
      | succ n =>
        rw [bdd_tuple] at b
        have e : l_law_copied_1 (F_law_copied m) ⟨[.val (.tuple ds), .no], w⟩ = .ok (.new (ds.map id)) ⟨[.val (.tuple ds), .no], w⟩ := by
          refine lc_all (fun x : PyData => ⟨[.val (.tuple ds), .val x], w⟩) _ (f := id) (l := ds) (by simp -implicitDefEqProofs) (by omega) rfl (fun a _ => by rfl) (fun a _ => by rfl) (fun x hx => ?_)
          unfold e_law_copied_1
          simp -implicitDefEqProofs [ih (b.2 x hx) (by omega), esc_cpC]
        rw [List.map_id] at e
        simp -implicitDefEqProofs [e, cpC]
    | dict kvs => cases n <;> (unfold bdd at b; exact b.elim)
    | _ => simp -implicitDefEqProofs [cpC]
def tgC (p : Str × Bool) : PyData := .tuple [.str p.1, .bool p.2]
theorem bdd_intsC {n : Nat} {l : List Int} (h : l.length ≤ 1000) : bdd (n + 1) (.list (l.map .int)) := bdd_list.mpr ⟨by simpa using h, fun d hd => by obtain ⟨z, _, rfl⟩ := List.mem_map.mp hd; simp⟩
theorem bdd_folkC {n : Nat} {f : List (List Int)} (h : f.length ≤ 1000) (h2 : ∀ r ∈ f, r.length ≤ 1000) : bdd (n + 2) (.list (f.map llD)) := bdd_list.mpr ⟨by simpa using h, fun d hd => by obtain ⟨z, hz, rfl⟩ := List.mem_map.mp hd; exact bdd_intsC (h2 z hz)⟩

end DL

noncomputable section
namespace DL
open PySem L2
def e_number_of_v2_1 : M R := fOp (lift2 (sgO false)) (fVar 1) (fC (.str "0123456789"))
abbrev l_number_of_v2_1 : M R := fLc (fStrI (fVar 0)) (bName 1) fYes (e_number_of_v2_1) [1]
def p_number_of_v2 : DSt → Flow := fseq (fIfS (fOr (fB (fOp (lift2 eqO) (fVar 0) (fC (.str "")))) (fOr (fB (fOp (lift2 gtO) (fCall lenO (pCons (fVar 0) fNil)) (fC (.int 30)))) (fNot (fB (fCall allO (pCons (fLc (fStrI (fVar 0)) (bName 1) fYes (e_number_of_v2_1) [1]) fNil)))))) (fRet (fC .none)) fnext) (fseq (fIfS (fAnd (fB (fOp (lift2 eqO) (fOp (lift2 ixO) (fVar 0) (fC (.int 0))) (fC (.str "0")))) (fB (fOp (lift2 neO) (fVar 0) (fC (.str "0"))))) (fRet (fC .none)) fnext) (fRet (fCall intTO (pCons (fVar 0) fNil))))
def F_number_of_v2 : List R → Pw → FRes := runF 2 1 p_number_of_v2
def e_ranking_of_v3_1 : M R := fUser F_number_of_v2 (fCons (fVar 2) fNil)
abbrev l_ranking_of_v3_1 : M R := fLc (fLstI (fSplit (fVar 0) (fC (.str ">")))) (bName 2) fYes (e_ranking_of_v3_1) [2]
def p_ranking_of_v3 : DSt → Flow := fseq (fSet 1 (fLc (fLstI (fSplit (fVar 0) (fC (.str ">")))) (bName 2) fYes (e_ranking_of_v3_1) [2])) (fseq (fIfS (fOr (fB (fOp (lift2 inO) (fC .none) (fVar 1))) (fNot (fB (fUserP F_is_ranking (pCons (fVar 1) fNil))))) (fRet (fC .none)) fnext) (fRet (fVar 1)))
def F_ranking_of_v3 : List R → Pw → FRes := runF 3 1 p_ranking_of_v3
def e_in_one_1 : M R := fStr (fVar 1)
abbrev l_in_one_1 : M R := fLc (fLstI (fVar 0)) (bName 1) fYes (e_in_one_1) [1]
def p_in_one : DSt → Flow := fRet (fJoin (fC (.str ">")) (fLc (fLstI (fVar 0)) (bName 1) fYes (e_in_one_1) [1]))
def F_in_one : List R → Pw → FRes := runF 2 1 p_in_one
def p_ranking_text : DSt → Flow := fseq (fDrop (fUser F_must_be_ranking (fCons (fVar 0) fNil))) (fRet (fUser F_in_one (fCons (fVar 0) fNil)))
def F_ranking_text : List R → Pw → FRes := runF 1 1 p_ranking_text
def p_read_ranking_v8 : DSt → Flow := fseq (fSet 1 (fUser F_ranking_of_v3 (fCons (fVar 0) fNil))) (fseq (fIfS (fB (fIsN false (fVar 1))) fnever fnext) (fRet (fVar 1)))
def F_read_ranking_v8 : List R → Pw → FRes := runF 2 1 p_read_ranking_v8
def e_folk_text_1 : M R := fOp (lift2 addO) (fUser F_in_one (fCons (fVar 1) fNil)) (fC (.str "\n"))
abbrev l_folk_text_1 : M R := fLc (fLstI (fVar 0)) (bName 1) fYes (e_folk_text_1) [1]
def p_folk_text : DSt → Flow := fseq (fDrop (fUser F_must_be_folk (fCons (fVar 0) fNil))) (fRet (fJoin (fC (.str "")) (fLc (fLstI (fVar 0)) (bName 1) fYes (e_folk_text_1) [1])))
def F_folk_text : List R → Pw → FRes := runF 2 1 p_folk_text
def b_read_folk_v5_1 : DSt → Flow := fseq (fSet 5 (fUser F_ranking_of_v3 (fCons (fVar 4) fNil))) (fseq (fIfS (fOr (fB (fIsN false (fVar 5))) (fOr (fB (fOp (lift2 geO) (fVar 3) (fC (.int 20)))) (fAnd (fB (fOp (lift2 neO) (fVar 2) (fLst fNil))) (fB (fOp (lift2 neO) (fCall sortedO (pCons (fVar 5) fNil)) (fCall sortedO (pCons (fOp (lift2 ixO) (fVar 2) (fC (.int 0))) fNil))))))) fnever fnext) (fDrop (fApp 2 (fVar 5))))
abbrev o_read_folk_v5_1 : List PyData → DSt → Flow := loopF (bTup 2 (bCons (bName 3) (bCons (bName 4) bNil))) b_read_folk_v5_1
def p_read_folk_v5 : DSt → Flow := fseq (fSet 1 (fSplit (fVar 0) (fC (.str "\n")))) (fseq (fSet 2 (fLst fNil)) (fseq (fFor (fEnum (fCons (fSlice (fVar 1) fNoPart (fPart (fUn (lift1 negO) (fC (.int 1))))) fNil)) (bTup 2 (bCons (bName 3) (bCons (bName 4) bNil))) b_read_folk_v5_1) (fseq (fIfS (fOr (fB (fOp (lift2 neO) (fOp (lift2 ixO) (fVar 1) (fUn (lift1 negO) (fC (.int 1)))) (fC (.str "")))) (fB (fOp (lift2 eqO) (fVar 2) (fLst fNil)))) fnever fnext) (fRet (fVar 2)))))
def F_read_folk_v5 : List R → Pw → FRes := runF 6 1 p_read_folk_v5
def e_law_word_1 : M R := fStr (fVar 1)
abbrev l_law_word_1 : M R := fLc (fLstI (fVar 0)) (bName 1) fYes (e_law_word_1) [1]
def p_law_word : DSt → Flow := fRet (fJoin (fC (.str ">")) (fLc (fLstI (fVar 0)) (bName 1) fYes (e_law_word_1) [1]))
def F_law_word : List R → Pw → FRes := runF 2 1 p_law_word
/-! rankings and folk as texts -/
def wI (i : Int) : Str := Str.ofString (toString i)
theorem tl_wI (n : Nat) : TL.tl (wI (n : Int)) = TL.numL n := TL.tl_num n
theorem wI_len (x : Str) : x.length = (TL.tl x).length := TL.len_tl x
theorem numL_head : ∀ (k n : Nat), n < k → ∃ c r, TL.numL n = c :: r ∧ (c = 48 → n = 0) := by
  intro k
  induction k with
  | zero => intro n h; omega
  | succ k ih =>
    intro n h
    by_cases q : n < 10
    · exact ⟨_, _, TL.numL_lt q, fun z => by omega⟩
    · obtain ⟨c, r, e, hc⟩ := ih (n / 10) (by omega)
      rw [TL.numL_step (by omega), e]
      exact ⟨c, r ++ [48 + n % 10], rfl, fun z => by have := hc z; omega⟩
theorem figures : TL.tl (Str.ofString "0123456789") = [48, 49, 50, 51, 52, 53, 54, 55, 56, 57] := by decide
theorem fig_mem {c : Nat} (h1 : 48 ≤ c) (h2 : c ≤ 57) : c ∈ (Str.ofString "0123456789").cps.toList := by
  show c ∈ TL.tl (Str.ofString "0123456789")
  rw [figures]
  simp
  omega
theorem numb_ok {n : Nat} {w : Pw} (h : n < 10 ^ 30) : F_number_of_v2 [.val (.str (wI (n : Int)))] w = .ok (.val (.int (n : Int))) w := by
  have l30 := TL.numL_len (k := 30) (by omega) h
  have ne := TL.numL_ne n
  have dg := TL.numL_digits n
  obtain ⟨c, r, hc, h0⟩ := numL_head (n + 1) n (by omega)
  have et := tl_wI n
  have ei : PySem.intText? (wI (n : Int)) = some (n : Int) := TL.int_num (by omega)
  obtain ⟨x, hx⟩ : ∃ x, wI (n : Int) = x := ⟨_, rfl⟩
  rw [hx] at et ei ⊢
  have lx : x.length = (TL.numL n).length := by rw [wI_len, et]
  have e0 : ¬ x = Str.ofString "" := fun z => by
    rw [z] at et
    exact ne (by rw [← et]; rfl)
  have e1 : l_number_of_v2_1 ⟨[.val (.str x), .no], w⟩ = .ok (.new ((TL.numL n).map fun _ => PyData.bool true)) ⟨[.val (.str x), .no], w⟩ := by
    refine lc_all (fun c : Nat => ⟨[.val (.str x), .val (.str ⟨#[c]⟩)], w⟩) _ (f := fun c : Nat => PyData.str ⟨#[c]⟩) (l := TL.numL n) (by
      have : sgnD x = (TL.numL n).map fun c : Nat => PyData.str ⟨#[c]⟩ := by unfold sgnD; exact congrArg (List.map _) et
      simp -implicitDefEqProofs [this]) (by omega) rfl (fun a _ => by rfl) (fun a _ => by rfl) (fun c hc => ?_)
    have hm := fig_mem (dg c hc).1 (dg c hc).2
    unfold e_number_of_v2_1
    simp -implicitDefEqProofs [hm]
  have ea : ((TL.numL n).map fun _ => true).all id = true := by simp
  have l30' : ¬ (30 : Int) < (x.length : Int) := by omega
  have a0 : atI x.cps.toList 0 = some c := by
    have : x.cps.toList = c :: r := et.trans hc
    rw [this]; simp
  have z0 : c = 48 → x = Str.ofString "0" := fun z => by
    have n0 := h0 z
    apply TL.ext_tl
    rw [et, n0, TL.numL_lt (by omega)]
    rfl
  have z1 : (⟨#[c]⟩ : Str) = Str.ofString "0" ↔ c = 48 := by
    constructor
    · intro z
      have := congrArg TL.tl z
      rw [show TL.tl (Str.ofString "0") = [48] by decide] at this
      exact (List.cons.inj this).1
    · intro z
      subst z
      decide
  unfold F_number_of_v2 p_number_of_v2
  simp only [x_runF]
  have lo : lenO [.str x] = some (.val (.int (x.length : Int))) := if_pos (size_le (by omega))
  have ix0 : ixO (.str x) (.int 0) = some (.val (.str ⟨#[c]⟩)) := by
    show (if leS (x.length) then (atI x.cps.toList 0).map fun c => R.val (.str ⟨#[c]⟩) else none) = _
    rw [if_pos (size_le (by omega)), a0]
    rfl
  have it : intTO [.str x] = some (.val (.int (n : Int))) := by
    show (match PySem.intText? x with | some n => if x.length ≤ 640 then some (R.val (.int n)) else none | none => none) = _
    rw [ei]
    exact if_pos (by omega)
  by_cases q : c = 48
  · have zz : neO (.str x) (.str (Str.ofString "0")) = some (.val (.bool false)) := by rw [z0 q]; rfl
    simp -implicitDefEqProofs [e0, e1, ea, l30', a0, z1, q, zz, it, ix0, boolsD_map', lo]
  · simp -implicitDefEqProofs [e0, e1, ea, l30', a0, z1, q, it, ix0, boolsD_map', lo]

/-! a ranking's word -/
def okW (r : List Int) : Prop := ∀ x ∈ r, 0 ≤ x ∧ x < 10 ^ 30
def oneT (r : List Int) : Str := Txt.join (Str.ofString ">") (r.map wI)
theorem wI_nat {x : Int} (h : 0 ≤ x) : ∃ n : Nat, x = (n : Int) := Int.eq_ofNat_of_zero_le h |>.imp fun _ h => h
theorem wI_le {x : Int} (h : 0 ≤ x ∧ x < 10 ^ 30) : (wI x).length ≤ 30 ∧ (∀ s, s < 48 ∨ 57 < s → s ∉ TL.tl (wI x)) := by
  obtain ⟨n, rfl⟩ := wI_nat h.1
  have hn : n < 10 ^ 30 := by
    have := h.2
    have e : ((10 : Int) ^ 30) = ((10 ^ 30 : Nat) : Int) := by norm_cast
    rw [e] at this
    exact Int.ofNat_lt.mp this
  rw [wI_len, tl_wI]
  exact ⟨TL.numL_len (by omega) hn, fun s hs => TL.numL_free hs⟩
theorem numb_ok' {x : Int} {w : Pw} (h : 0 ≤ x ∧ x < 10 ^ 30) : F_number_of_v2 [.val (.str (wI x))] w = .ok (.val (.int x)) w := by
  obtain ⟨n, rfl⟩ := wI_nat h.1
  have hn : n < 10 ^ 30 := by
    have := h.2
    have e : ((10 : Int) ^ 30) = ((10 ^ 30 : Nat) : Int) := by norm_cast
    rw [e] at this
    exact Int.ofNat_lt.mp this
  exact numb_ok hn
theorem sum_le {l : List Nat} {k : Nat} (h : ∀ x ∈ l, x ≤ k) : l.sum ≤ l.length * k := by
  induction l with
  | nil => simp
  | cons a l ih =>
    have := h a (by simp)
    have := ih fun x hx => h x (by simp [hx])
    rw [List.sum_cons, List.length_cons, Nat.succ_mul]
    omega
theorem leJ_of {a : Str} {ys : List Str} {k n : Nat} (ha : a.length ≤ 1) (hl : ys.length ≤ n) (h : ∀ y ∈ ys, y.length ≤ k) (hk : n * (k + 1) ≤ 16777216) : leJ a ys := by
  unfold leJ
  have h1 := sum_le (l := ys.map (·.length)) (k := k) fun x hx => by obtain ⟨y, hy, rfl⟩ := List.mem_map.mp hx; exact h y hy
  rw [List.length_map] at h1
  have h2 : ys.length * a.length ≤ ys.length * 1 := Nat.mul_le_mul_left _ ha
  have h3 : ys.length * k + ys.length * 1 ≤ n * (k + 1) := by rw [← Nat.mul_add]; exact Nat.mul_le_mul_right _ hl
  omega
theorem lg_ok {x : Int} (h : 0 ≤ x ∧ x < 10 ^ 30) : lgT x := by
  have b : (10 : Int) ^ 30 < 2 ^ 200 := by decide +kernel
  have c : -((2 : Int) ^ 200) < 0 := by decide +kernel
  have := log_small (a := x) (Int.lt_of_lt_of_le c h.1) (Int.lt_trans h.2 b)
  unfold lgT
  omega
theorem in_one_ok {r : List Int} {w : Pw} (h : okW r) (hl : r.length ≤ 10) : F_in_one [.val (.list ((r).map .int))] w = .ok (.val (.str (oneT r))) w := by
  have e1 : l_in_one_1 ⟨[.val (.list ((r).map .int)), .no], w⟩ = .ok (.new ((r.map wI).map .str)) ⟨[.val (.list ((r).map .int)), .no], w⟩ := by
    rw [List.map_map]
    refine lc_all (fun x : Int => ⟨[.val (.list ((r).map .int)), .val (.int (x))], w⟩) _ (f := .int) (l := r) (by simp -implicitDefEqProofs) (by omega) rfl (fun a _ => by rfl) (fun a _ => by rfl) (fun x hx => ?_)
    have hl := lg_ok (h x hx)
    have es : strO (.int x) = some (.val (.str (wI x))) := if_pos hl
    unfold e_in_one_1
    simp -implicitDefEqProofs [es]
  have hj : leJ (Str.ofString ">") (r.map wI) := leJ_of (n := 10) (k := 30) (by decide) (by rw [List.length_map]; exact hl) (fun y hy => by obtain ⟨x, hx, rfl⟩ := List.mem_map.mp hy; exact (wI_le (h x hx)).1) (by omega)
  have hj' : Txt.join (Str.ofString ">") (r.map wI) = oneT r := rfl
  obtain ⟨W, hW⟩ : ∃ W, r.map wI = W := ⟨_, rfl⟩
  rw [hW] at e1 hj hj'
  unfold F_in_one p_in_one
  simp only [x_runF]
  simp -implicitDefEqProofs [e1, hj, hj']

end DL

noncomputable section
namespace DL
open PySem L2

theorem law_word_ok {r : List Int} {w : Pw} (h : okW r) (hl : r.length ≤ 10) : F_law_word [.val (.list ((r).map .int))] w = .ok (.val (.str (oneT r))) w := by
  have e1 : l_law_word_1 ⟨[.val (.list ((r).map .int)), .no], w⟩ = .ok (.new ((r.map wI).map .str)) ⟨[.val (.list ((r).map .int)), .no], w⟩ := by
    rw [List.map_map]
    refine lc_all (fun x : Int => ⟨[.val (.list ((r).map .int)), .val (.int (x))], w⟩) _ (f := .int) (l := r) (by simp -implicitDefEqProofs) (by omega) rfl (fun a _ => by rfl) (fun a _ => by rfl) (fun x hx => ?_)
    have hl := lg_ok (h x hx)
    have es : strO (.int x) = some (.val (.str (wI x))) := if_pos hl
    unfold e_law_word_1
    simp -implicitDefEqProofs [es]
  have hj : leJ (Str.ofString ">") (r.map wI) := leJ_of (n := 10) (k := 30) (by decide) (by rw [List.length_map]; exact hl) (fun y hy => by obtain ⟨x, hx, rfl⟩ := List.mem_map.mp hy; exact (wI_le (h x hx)).1) (by omega)
  have hj' : Txt.join (Str.ofString ">") (r.map wI) = oneT r := rfl
  obtain ⟨W, hW⟩ : ∃ W, r.map wI = W := ⟨_, rfl⟩
  rw [hW] at e1 hj hj'
  unfold F_law_word p_law_word
  simp only [x_runF]
  simp -implicitDefEqProofs [e1, hj, hj']
theorem tl_gt : TL.tl (Str.ofString ">") = [62] := by decide
theorem tl_nl : TL.tl (Str.ofString "\n") = [10] := by decide
theorem split_one {r : List Int} (h : okW r) (h0 : r ≠ []) : Txt.split (oneT r) (Str.ofString ">") = r.map wI := by
  refine TL.split_join tl_gt (by decide +kernel) (by simpa using h0) fun p hp => ?_
  obtain ⟨x, hx, rfl⟩ := List.mem_map.mp hp
  exact (wI_le (h x hx)).2 62 (by omega)
theorem len_joinL (S : List Nat) {k : Nat} : ∀ {ps : List (List Nat)}, (∀ p ∈ ps, p.length ≤ k) → (TL.joinL S ps).length ≤ ps.length * (k + S.length)
  | [], _ => by simp [TL.joinL]
  | [p], h => by
    have := h p (by simp)
    simp only [TL.joinL, List.length_cons, List.length_nil]
    omega
  | p :: q :: ps, h => by
    have h1 := h p (by simp)
    have h2 := len_joinL S (ps := q :: ps) fun x hx => h x (by simp [List.mem_cons.mp hx])
    simp only [TL.joinL, List.length_append, List.length_cons, Nat.succ_mul] at h2 ⊢
    omega
theorem tl_one {r : List Int} : TL.tl (oneT r) = TL.joinL [62] (r.map fun x => TL.tl (wI x)) := by
  unfold oneT
  rw [TL.join_eq, TL.tl_join, tl_gt, List.map_map]
  rfl
theorem one_len {r : List Int} (h : okW r) (hl : r.length ≤ 10) : (oneT r).length ≤ 310 := by
  rw [wI_len, tl_one]
  have := len_joinL [62] (k := 30) (ps := r.map fun x => TL.tl (wI x)) fun p hp => by
    obtain ⟨x, hx, rfl⟩ := List.mem_map.mp hp
    rw [← wI_len]
    exact (wI_le (h x hx)).1
  rw [List.length_map] at this
  have l1 : r.length * (30 + [62].length) ≤ 10 * 31 := Nat.mul_le_mul_right _ hl
  omega
theorem mem_joinL {S : List Nat} {c : Nat} : ∀ {ps : List (List Nat)}, c ∈ TL.joinL S ps → c ∈ S ∨ ∃ p ∈ ps, c ∈ p
  | [], h => by simp [TL.joinL] at h
  | [p], h => by simp only [TL.joinL] at h; exact .inr ⟨p, by simp, h⟩
  | p :: q :: ps, h => by
    simp only [TL.joinL, List.mem_append] at h
    rcases h with h | h | h
    · exact .inr ⟨p, by simp, h⟩
    · exact .inl h
    · rcases mem_joinL h with h | ⟨x, hx, h⟩
      · exact .inl h
      · exact .inr ⟨x, by simp [List.mem_cons.mp hx], h⟩
theorem one_free {r : List Int} (h : okW r) : (10 : Nat) ∉ TL.tl (oneT r) := fun z => by
  rw [tl_one] at z
  rcases mem_joinL z with z | ⟨p, hp, z⟩
  · simp at z
  · obtain ⟨x, hx, rfl⟩ := List.mem_map.mp hp
    exact (wI_le (h x hx)).2 10 (by omega) z
theorem none_in {ns : List Int} : inO .none (.list (ns.map .int)) = some (.val (.bool false)) := by
  have d : PyData.depth .none ≤ 60 := by decide
  unfold inO
  show (if min (PyData.depthAll (ns.map PyData.int)) (PyData.depth .none) ≤ 60 then some (R.val (.bool ((ns.map PyData.int).any fun z => PyData.eqv z .none))) else none) = _
  rw [if_pos (by omega)]
  have : ((ns.map PyData.int).any fun z => PyData.eqv z .none) = false := by
    rw [List.any_eq_false]
    intro y hy
    obtain ⟨b, hb, rfl⟩ := List.mem_map.mp hy
    simp [PyData.eqv]
  rw [this]
theorem ranked_ok {r : List Int} {w : Pw} (h : okW r) (hr : Rank r) : F_ranking_of_v3 [.val (.str (oneT r))] w = .ok (.new (r.map .int)) w := by
  have h0 : r ≠ [] := List.length_pos_iff.mp hr.2.2.1
  have h10 := hr.2.2.2
  have sp := split_one h h0
  have sl : leS ((oneT r).length + 2) := size_le (by have := one_len h h10; omega)
  have sg : ((Str.ofString ">").length == 0) = false := by decide
  have e1 : l_ranking_of_v3_1 ⟨[.val (.str (oneT r)), .no, .no], w⟩ = .ok (.new (r.map .int)) ⟨[.val (.str (oneT r)), .no, .no], w⟩ := by
    obtain ⟨x, hx⟩ : ∃ x, oneT r = x := ⟨_, rfl⟩
    rw [hx] at sp sl ⊢
    refine lc_all (fun i : Int => ⟨[.val (.str x), .no, .val (.str (wI i))], w⟩) _ (f := fun i : Int => PyData.str (wI i)) (l := r) (by
      have z : (Txt.split x (Str.ofString ">")).map PyData.str = r.map fun i => PyData.str (wI i) := by rw [sp, List.map_map]; rfl
      simp -implicitDefEqProofs [sl, sg, z]) (by omega) rfl (fun a _ => by rfl) (fun a _ => by rfl) (fun i hi => ?_)
    unfold e_ranking_of_v3_1
    simp -implicitDefEqProofs [numb_ok' (h i hi)]
  have ei := is_ranking_any (w := w) (d := .list (r.map .int)) (by show (r.map PyData.int).length ≤ 4000; rw [List.length_map]; omega)
  rw [rankB_ints, decide_eq_true hr] at ei
  have en := none_in (ns := r)
  obtain ⟨x, hx⟩ : ∃ x, oneT r = x := ⟨_, rfl⟩
  rw [hx] at e1 ⊢
  obtain ⟨D, hD⟩ : ∃ D, r.map PyData.int = D := ⟨_, rfl⟩
  rw [hD] at e1 ei en ⊢
  unfold F_ranking_of_v3 p_ranking_of_v3
  simp only [x_runF]
  simp -implicitDefEqProofs [e1, ei, en]
theorem read_ranking_ok {r : List Int} {w : Pw} (h : okW r) (hr : Rank r) : F_read_ranking_v8 [.val (.str (oneT r))] w = .ok (.new (r.map .int)) w := by
  have e := ranked_ok (w := w) h hr
  unfold F_read_ranking_v8 p_read_ranking_v8
  simp only [x_runF]
  simp -implicitDefEqProofs [e]
theorem ranking_text_ok {r : List Int} {w : Pw} (h : okW r) (hr : Rank r) : F_ranking_text [.val (.list ((r).map .int))] w = .ok (.val (.str (oneT r))) w := by
  have e := in_one_ok (w := w) h hr.2.2.2
  have m := must_ranking_ok (w := w) hr
  unfold F_ranking_text p_ranking_text
  simp only [x_runF]
  simp -implicitDefEqProofs [e, m]

end DL

noncomputable section
namespace DL
open PySem L2

def rowT (r : List Int) : Str := oneT r ++ Str.ofString "\n"
def folkT (f : List (List Int)) : Str := Txt.join (Str.ofString "") (f.map rowT)
theorem joinL_nil : ∀ ps : List (List Nat), TL.joinL [] ps = ps.flatten
  | [] => rfl
  | [p] => by simp [TL.joinL]
  | p :: q :: ps => by
    have := joinL_nil (q :: ps)
    simp only [TL.joinL, List.nil_append, this, List.flatten_cons]
theorem tl_row {r : List Int} : TL.tl (rowT r) = TL.tl (oneT r) ++ [10] := by
  unfold rowT
  rw [TL.tl_append, tl_nl]
theorem tl_folk {f : List (List Int)} : TL.tl (folkT f) = (f.map fun r => TL.tl (oneT r) ++ [10]).flatten := by
  unfold folkT
  rw [TL.join_eq, TL.tl_join, show TL.tl (Str.ofString "") = [] by decide, joinL_nil, List.map_map]
  congr 1
  exact List.map_congr_left fun r _ => tl_row
theorem spl_rows : ∀ {f : List (List Int)}, (∀ r ∈ f, okW r) → TL.spl [10] 0 [] (f.map fun r => TL.tl (oneT r) ++ [10]).flatten = f.map (fun r => TL.tl (oneT r)) ++ [[]]
  | [], _ => by simp [TL.spl_nil]
  | r :: f, h => by
    have ih := spl_rows (f := f) fun x hx => h x (by simp [hx])
    have e := TL.spl_part1 (s := 10) (S := []) (p := TL.tl (oneT r)) (rest := (f.map fun r => TL.tl (oneT r) ++ [10]).flatten) (acc := []) (one_free (h r (by simp)))
    rw [ih] at e
    rw [List.map_cons, List.flatten_cons, List.append_assoc]
    exact e
theorem split_folk {f : List (List Int)} (h : ∀ r ∈ f, okW r) : Txt.split (folkT f) (Str.ofString "\n") = f.map oneT ++ [Str.ofString ""] := by
  refine TL.map_tl_inj ?_
  have e := TL.split_spl (folkT f) (Str.ofString "\n") (by rw [tl_nl]; simp) (TL.kind_ok (by decide +kernel))
  rw [e, tl_nl, tl_folk, spl_rows h, List.map_append, List.map_map]
  rfl
theorem folk_len {f : List (List Int)} (h : ∀ r ∈ f, okW r ∧ r.length ≤ 10) (h20 : f.length ≤ 20) : (folkT f).length ≤ 7000 := by
  rw [wI_len, tl_folk, List.length_flatten, List.map_map]
  have := sum_le (l := f.map (List.length ∘ fun r => TL.tl (oneT r) ++ [10])) (k := 311) fun x hx => by
    obtain ⟨r, hr, rfl⟩ := List.mem_map.mp hx
    have := one_len (h r hr).1 (h r hr).2
    rw [wI_len] at this
    show (TL.tl (oneT r) ++ [10]).length ≤ 311
    rw [List.length_append]
    simp
    omega
  rw [List.length_map] at this
  have l1 : f.length * 311 ≤ 20 * 311 := Nat.mul_le_mul_right _ h20
  omega

theorem in_folk {f : List (List Int)} (h : Folk f) {r : List Int} (hr : r ∈ f) : Rank r := (h.2.2 r hr).1
theorem folk_text_ok {f : List (List Int)} {w : Pw} (h : ∀ r ∈ f, okW r) (hF : Folk f) : F_folk_text [.val (.list ((f).map llD))] w = .ok (.val (.str (folkT f))) w := by
  have m := must_folk_ok (w := w) hF
  have l20 := hF.2.1
  have e1 : l_folk_text_1 ⟨[.val (.list ((f).map llD)), .no], w⟩ = .ok (.new ((f.map rowT).map .str)) ⟨[.val (.list ((f).map llD)), .no], w⟩ := by
    rw [List.map_map]
    refine lc_all (fun r : List Int => ⟨[.val (.list ((f).map llD)), .val (llD r)], w⟩) _ (f := llD) (l := f) (by simp -implicitDefEqProofs) (by omega) rfl (fun a _ => by rfl) (fun a _ => by rfl) (fun r hr => ?_)
    have e := in_one_ok (w := w) (h r hr) (in_folk hF hr).2.2.2
    have l1 : leS ((oneT r).length + (Str.ofString "\n").length) := size_le (by have := one_len (h r hr) (in_folk hF hr).2.2.2; have : (Str.ofString "\n").length = 1 := by decide
                                                                                omega)
    have ea : addO (.str (oneT r)) (.str (Str.ofString "\n")) = some (.val (.str (rowT r))) := if_pos l1
    unfold e_folk_text_1 llD
    simp -implicitDefEqProofs [e, ea]
  have hj : leJ (Str.ofString "") (f.map rowT) := leJ_of (n := 20) (k := 311) (by decide) (by rw [List.length_map]; exact l20) (fun y hy => by
    obtain ⟨r, hr, rfl⟩ := List.mem_map.mp hy
    have := one_len (h r hr) (in_folk hF hr).2.2.2
    rw [wI_len] at this ⊢
    rw [tl_row, List.length_append]
    simp
    omega) (by omega)
  have hj' : Txt.join (Str.ofString "") (f.map rowT) = folkT f := rfl
  obtain ⟨W, hW⟩ : ∃ W, f.map rowT = W := ⟨_, rfl⟩
  rw [hW] at e1 hj hj'
  unfold F_folk_text p_folk_text
  simp only [x_runF]
  simp -implicitDefEqProofs [e1, hj, hj', m]
theorem cut_init3 {K : List PyData} {z : PyData} : cutD (K ++ [z]) none (some (-1)) = K := by
  unfold cutD HT.sIx
  simp
  have : (-1 + ((K.length : Int) + 1)).toNat = K.length := by omega
  rw [this]
  simp
theorem sort_llD {r : List Int} : sortedO [.list (r.map .int)] = some (.new ((sortI r).map .int)) := by rw [x_sortedO, intsD_map]
theorem read_folk_ok {f : List (List Int)} {w : Pw} (h : ∀ r ∈ f, okW r) (hF : Folk f) : F_read_folk_v5 [.val (.str (folkT f))] w = .ok (.new (f.map llD)) w := by
  have l20 := hF.2.1
  have f0 := hF.1
  have sp := split_folk h
  have sl : leS ((folkT f).length + 2) := size_le (by have := folk_len (fun r hr => ⟨h r hr, (in_folk hF hr).2.2.2⟩) l20; omega)
  have sg : ((Str.ofString "\n").length == 0) = false := by decide
  obtain ⟨x, hx⟩ : ∃ x, folkT f = x := ⟨_, rfl⟩
  rw [hx] at sp sl ⊢
  obtain ⟨RW, hRW⟩ : ∃ RW, (f.map oneT).map PyData.str = RW := ⟨_, rfl⟩
  have sp' : (Txt.split x (Str.ofString "\n")).map PyData.str = RW ++ [.str (Str.ofString "")] := by rw [sp, List.map_append, hRW]; rfl
  have lRW : RW.length = f.length := by rw [← hRW]; simp
  have cut : cutD (RW ++ [.str (Str.ofString "")]) none (some (-1)) = RW := cut_init3
  have ee : enumD RW = f.zipIdx.map fun p : List Int × Nat => PyData.tuple [.int (p.2 : Int), .str (oneT p.1)] := by
    unfold enumD
    rw [← hRW, List.zipIdx_map, List.zipIdx_map, List.map_map, List.map_map]
    rfl
  obtain ⟨s', e2, v3, v4, v5, rfl⟩ := loopN (b := bTup 2 (bCons (bName 3) (bCons (bName 4) bNil))) (p := b_read_folk_v5_1) (f := fun p : List Int × Nat => PyData.tuple [.int (p.2 : Int), .str (oneT p.1)]) (l := f.zipIdx) (s := ⟨[.val (.str x), .own (RW ++ [.str (Str.ofString "")]), .own [], .no, .no, .no], w⟩)
    (fun i s => ∃ v3 v4 v5 : Sl, s = ⟨[.val (.str x), .own (RW ++ [.str (Str.ofString "")]), .own ((f.take i).map llD), v3, v4, v5], w⟩) ⟨_, _, _, rfl⟩ (by
      rintro i ⟨r, k⟩ s hi hp ⟨v3, v4, v5, rfl⟩
      have hk : k = i ∧ f[i]? = some r := by
        rw [List.getElem?_zipIdx] at hi
        cases q : f[i]? with
        | none => rw [q] at hi; cases hi
        | some z =>
          rw [q] at hi
          simp at hi
          exact ⟨hi.2.symm, by rw [hi.1]⟩
      obtain ⟨rfl, hr⟩ := hk
      have mr := List.mem_of_getElem? hr
      have kl : k < f.length := (List.getElem?_eq_some_iff.mp hr).1
      have e := ranked_ok (w := w) (h r mr) (in_folk hF mr)
      have tk : f.take (k + 1) = f.take k ++ [r] := take_succ hr
      have k20 : ¬ (20 : Int) ≤ (k : Int) := by omega
      have so := sort_llD (r := r)
      have lt : ltS ((f.take k).map llD).length := size_lt (by rw [List.length_map, List.length_take]; omega)
      dsimp only
      rw [tk, List.map_append]
      by_cases z : k = 0
      · subst z
        rw [List.take_zero] at lt ⊢
        unfold b_read_folk_v5_1
        simp -implicitDefEqProofs [e, lt, llD, -x_sortedO]
      · have h0 : f.take k = f.headD [] :: (f.take k).tail := by
          cases f with
          | nil => simp at f0
          | cons a f =>
            obtain ⟨j, rfl⟩ : ∃ j, k = j + 1 := ⟨k - 1, by omega⟩
            rfl
        have i0 : ((f.take k).map llD)[0]? = some (.list ((f.headD []).map .int)) := by rw [h0]; rfl
        have so2 := sort_llD (r := f.headD [])
        have se : sortI r = sortI (f.headD []) := sortI_eq ((sortI_perm r).trans ((hF.2.2 _ (head_mem hF.1)).2 r mr)) (sortI_le r)
        rw [← se] at so2
        have ne : ¬ (f.take k).map llD = [] := by rw [h0]; simp
        obtain ⟨FK, hFK⟩ : ∃ FK, (f.take k).map llD = FK := ⟨_, rfl⟩
        rw [hFK] at lt i0 ne ⊢
        obtain ⟨H0, hH0⟩ : ∃ H0, (f.headD []).map PyData.int = H0 := ⟨_, rfl⟩
        rw [hH0] at i0 so2
        obtain ⟨SR, hSR⟩ : ∃ SR, (sortI r).map PyData.int = SR := ⟨_, rfl⟩
        rw [hSR] at so so2
        have nn : neO (.list SR) (.list SR) = some (.val (.bool false)) := by rw [← hSR]; simp
        unfold b_read_folk_v5_1
        simp -implicitDefEqProofs [e, lt, llD, -x_sortedO, k20, so, so2, i0, ne, nn])
  have lz : f.zipIdx.length = f.length := List.length_zipIdx
  rw [lz, List.take_length] at e2
  have la : atI (RW ++ [PyData.str (Str.ofString "")]) (-1) = some (.str (Str.ofString "")) := atI_last _ _
  have ne : ¬ f = [] := List.length_pos_iff.mp f0
  have nl : ¬ f.map llD = [] := by simpa using ne
  obtain ⟨FD, hFD⟩ : ∃ FD, f.map llD = FD := ⟨_, rfl⟩
  rw [hFD] at e2 nl ⊢
  rw [← ee] at e2
  unfold F_read_folk_v5 p_read_folk_v5
  simp only [x_runF]
  simp -implicitDefEqProofs [sl, sg, sp', cut, e2, la, nl]

end DL

noncomputable section
namespace DL
open PySem L2
def b_law_falling_v3_1 : DSt → Flow := fIfS (fB (fOp (lift2 neO) (fOp (lift2 inO) (fVar 5) (fVar 3)) (fOp (lift2 inO) (fVar 6) (fVar 3)))) (fDrop (fApp 4 (fOp (lift2 ixO) (fLst (fCons (fVar 5) (fCons (fVar 6) fNil))) (fCall intO (pCons (fOp (lift2 inO) (fVar 5) (fVar 3)) fNil))))) fnext
abbrev o_law_falling_v3_1 : List PyData → DSt → Flow := loopF (bTup 2 (bCons (bName 5) (bCons (bName 6) bNil))) b_law_falling_v3_1
def c_law_falling_v3_2 : M Bool := fB (fOp (lift2 ltO) (fCall lenO (pCons (fVar 3) fNil)) (fCall lenO (pCons (fVar 1) fNil)))
def b_law_falling_v3_3 : DSt → Flow := fseq (fSet 4 (fLst fNil)) (fseq (fFor (fLstI (fVar 2)) (bTup 2 (bCons (bName 5) (bCons (bName 6) bNil))) b_law_falling_v3_1) (fDrop (fApp 3 (fOp (lift2 ixO) (fVar 4) (fUser F_law_draw_v3 (fCons (fVar 0) (fCons (fCall lenO (pCons (fVar 4) fNil)) fNil)))))))
abbrev o_law_falling_v3_3 : DSt → Flow := whileF c_law_falling_v3_2 b_law_falling_v3_3 10000
def p_law_falling_v3 : DSt → Flow := fseq (fSet 3 (fLst (fCons (fOp (lift2 ixO) (fVar 1) (fUser F_law_draw_v3 (fCons (fVar 0) (fCons (fCall lenO (pCons (fVar 1) fNil)) fNil)))) fNil))) (fseq (whileF c_law_falling_v3_2 b_law_falling_v3_3 10000) (fRet (fVar 3)))
def F_law_falling_v3 : List R → Pw → FRes := runF 7 3 p_law_falling_v3
def b_law_folk_v14_1 : DSt → Flow := fseq (fSet 6 (fUser F_law_falling_v3 (fCons (fVar 0) (fCons (fVar 1) (fCons (fVar 2) fNil))))) (fseq (fIfS (fAnd (fB (fOp (lift2 eqO) (fVar 3) (fC (.int 2)))) (fAnd (fB (fOp (lift2 gtO) (fCall lenO (pCons (fVar 1) fNil)) (fC (.int 1)))) (fB (fOp (lift2 eqO) (fUser F_law_draw_v3 (fCons (fVar 0) (fCons (fC (.int 4)) fNil))) (fC (.int 0)))))) (fseq (fSet 7 (fUser F_law_draw_v3 (fCons (fVar 0) (fCons (fOp (lift2 subO) (fCall lenO (pCons (fVar 1) fNil)) (fC (.int 1))) fNil)))) (fSwap 6 (fTup (fCons (fOp (lift2 ixO) (fVar 6) (fOp (lift2 addO) (fVar 7) (fC (.int 1)))) (fCons (fOp (lift2 ixO) (fVar 6) (fVar 7)) fNil))) (fVar 7) (fOp (lift2 addO) (fVar 7) (fC (.int 1))))) fnext) (fseq (fIfS (fB (fOp (lift2 eqO) (fVar 3) (fC (.int 3)))) (fSet 6 (fUser F_law_shuffled_v3 (fCons (fVar 0) (fCons (fVar 1) fNil)))) fnext) (fseq (fIfS (fAnd (fB (fOp (lift2 neO) (fVar 4) (fLst fNil))) (fB (fOp (lift2 eqO) (fUser F_law_draw_v3 (fCons (fVar 0) (fCons (fC (.int 6)) fNil))) (fC (.int 0))))) (fSet 6 (fCall listO (pCons (fOp (lift2 ixO) (fVar 4) (fUser F_law_draw_v3 (fCons (fVar 0) (fCons (fCall lenO (pCons (fVar 4) fNil)) fNil)))) fNil))) fnext) (fDrop (fApp 4 (fVar 6))))))
abbrev o_law_folk_v14_1 : List PyData → DSt → Flow := loopF (bName 5) b_law_folk_v14_1
def p_law_folk_v14 : DSt → Flow := fseq (fSet 3 (fUser F_law_draw_v3 (fCons (fVar 0) (fCons (fC (.int 4)) fNil)))) (fseq (fSet 4 (fLst fNil)) (fseq (fFor (fRng1 (pCons (fOp (lift2 addO) (fC (.int 1)) (fUser F_law_draw_v3 (fCons (fVar 0) (fCons (fOp (lift2 ixO) (fLst (fCons (fC (.int 3)) (fCons (fC (.int 6)) (fCons (fC (.int 20)) fNil)))) (fUser F_law_draw_v3 (fCons (fVar 0) (fCons (fC (.int 3)) fNil)))) fNil)))) fNil)) (bName 5) b_law_folk_v14_1) (fRet (fVar 4))))
def F_law_folk_v14 : List R → Pw → FRes := runF 8 3 p_law_folk_v14
/-! what hangs together, said without lists; rankings drawn along a tree -/
def Conn (T : List (Int × Int)) (some : List Int) (x : Int) : Prop := ∀ F : Int → Prop, F x → (∀ p ∈ T, p.1 ∈ some → p.2 ∈ some → (F p.1 ↔ F p.2)) → ∀ y ∈ some, F y
/-! ### trees as they are made -/
theorem tieP_ends (a b : Int) : ((tieP a b).1 = a ∧ (tieP a b).2 = b) ∨ ((tieP a b).1 = b ∧ (tieP a b).2 = a) := by
  unfold tieP
  dsimp only
  omega
theorem tie_iff {F : Int → Prop} {a b : Int} (h : F (tieP a b).1 ↔ F (tieP a b).2) : F a ↔ F b := by
  rcases tieP_ends a b with ⟨e1, e2⟩ | ⟨e1, e2⟩ <;> rw [e1, e2] at h
  · exact h
  · exact h.symm
theorem genT_mem {N : List Int} {T : List (Int × Int)} (h : GenT N T) : ∃ (L : List Int) (f : Nat → Nat), L.Perm N ∧ (∀ k, 0 < k → k < L.length → f k < k) ∧ T.length = L.length - 1 ∧ ∀ p, p ∈ T ↔ ∃ k, 0 < k ∧ k < L.length ∧ p = tieP (L.getD k 0) (L.getD (f k) 0) := by
  obtain ⟨L, f, hp, hf, rfl⟩ := h
  refine ⟨L, f, hp, hf, by rw [(sortPr_perm _).length_eq, List.length_map, List.length_range'], fun p => ?_⟩
  rw [(sortPr_perm _).mem_iff, List.mem_map]
  constructor
  · rintro ⟨k, hk, rfl⟩
    rw [List.mem_range'_1] at hk
    exact ⟨k, by omega, by omega, rfl⟩
  · rintro ⟨k, h1, h2, rfl⟩
    exact ⟨k, by rw [List.mem_range'_1]; omega, rfl⟩
theorem genT_all {N : List Int} {T : List (Int × Int)} (h : GenT N T) {F : Int → Prop} (hF : ∀ p ∈ T, (F p.1 ↔ F p.2)) {x : Int} (hx : x ∈ N) (h1 : F x) : ∀ y ∈ N, F y := by
  obtain ⟨L, f, hp, hf, _, hm⟩ := genT_mem h
  have key : ∀ k, k < L.length → (F (L.getD k 0) ↔ F (L.getD 0 0)) := by
    intro k
    induction k using Nat.strongRecOn with
    | ind k ih =>
      intro hk
      by_cases z : k = 0
      · rw [z]
      · have hk0 : 0 < k := by omega
        have q := tie_iff (hF _ ((hm _).mpr ⟨k, hk0, hk, rfl⟩))
        exact q.trans (ih (f k) (hf k hk0 hk) (by have := hf k hk0 hk; omega))
  have at' : ∀ z ∈ N, ∃ k, k < L.length ∧ L.getD k 0 = z := fun z hz => by
    obtain ⟨k, hk, e⟩ := List.getElem_of_mem (hp.mem_iff.mpr hz)
    exact ⟨k, hk, by rw [List.getD_eq_getElem?_getD, List.getElem?_eq_getElem hk]; exact e⟩
  intro y hy
  obtain ⟨i, hi, ei⟩ := at' x hx
  obtain ⟨j, hj, ej⟩ := at' y hy
  have a := key i hi
  have b := key j hj
  rw [ei] at a
  rw [ej] at b
  exact b.mpr (a.mp h1)
theorem genT_in {N : List Int} {T : List (Int × Int)} (h : GenT N T) : ∀ p ∈ T, p.1 ∈ N ∧ p.2 ∈ N := by
  obtain ⟨L, f, hp, hf, _, hm⟩ := genT_mem h
  intro p q
  obtain ⟨k, h1, h2, rfl⟩ := (hm p).mp q
  have m : ∀ j, j < L.length → L.getD j 0 ∈ N := fun j hj => by
    rw [List.getD_eq_getElem?_getD, List.getElem?_eq_getElem hj]
    exact hp.mem_iff.mp (List.getElem_mem hj)
  have m1 := m k h2
  have m2 := m (f k) (by have := hf k h1 h2; omega)
  rcases tieP_ends (L.getD k 0) (L.getD (f k) 0) with ⟨e1, e2⟩ | ⟨e1, e2⟩ <;> rw [e1, e2]
  · exact ⟨m1, m2⟩
  · exact ⟨m2, m1⟩
/-! ### rankings that fall -/
def Fal (T : List (Int × Int)) (r : List Int) : Prop := ∀ k, 0 < k → k < r.length → ∃ j, j < k ∧ tieP (r.getD j 0) (r.getD k 0) ∈ T
theorem getD_app {l m : List Int} {i : Nat} (h : i < l.length) : (l ++ m).getD i 0 = l.getD i 0 := by
  rw [List.getD_eq_getElem?_getD, List.getD_eq_getElem?_getD, List.getElem?_append_left h]
theorem fal_snoc {T : List (Int × Int)} {r : List Int} {y : Int} (h : Fal T r) (hy : ∃ x ∈ r, tieP x y ∈ T) : Fal T (r ++ [y]) := by
  intro k h0 hk
  rw [List.length_append, List.length_singleton] at hk
  by_cases z : k < r.length
  · obtain ⟨j, hj, m⟩ := h k h0 z
    refine ⟨j, hj, ?_⟩
    rw [getD_app (by omega), getD_app z]
    exact m
  · have : k = r.length := by omega
    subst this
    obtain ⟨x, hx, m⟩ := hy
    obtain ⟨j, hj, e⟩ := List.getElem_of_mem hx
    refine ⟨j, hj, ?_⟩
    have e1 : (r ++ [y]).getD r.length 0 = y := by simp [List.getD_eq_getElem?_getD]
    have e2 : (r ++ [y]).getD j 0 = x := by rw [getD_app hj, List.getD_eq_getElem?_getD, List.getElem?_eq_getElem hj]; exact e
    rw [e1, e2]
    exact m
def nearL (found : List Int) (T : List (Int × Int)) : List Int := (T.filter fun p => decide (¬ (p.1 ∈ found ↔ p.2 ∈ found))).map fun p => if p.1 ∈ found then p.2 else p.1
theorem mem_near {found : List Int} {T : List (Int × Int)} {y : Int} (ht : ∀ p ∈ T, p.1 < p.2) (h : y ∈ nearL found T) : y ∉ found ∧ (∃ x ∈ found, tieP x y ∈ T) ∧ ∃ p ∈ T, y = p.1 ∨ y = p.2 := by
  obtain ⟨p, hp, rfl⟩ := List.mem_map.mp h
  obtain ⟨hp, hc⟩ := List.mem_filter.mp hp
  have hc := of_decide_eq_true hc
  have hl := ht p hp
  by_cases z : p.1 ∈ found
  · rw [if_pos z]
    have z2 : p.2 ∉ found := fun q => hc ⟨fun _ => q, fun _ => z⟩
    refine ⟨z2, ⟨p.1, z, ?_⟩, p, hp, .inr rfl⟩
    have : tieP p.1 p.2 = p := by unfold tieP; rw [Int.min_eq_left (by omega), Int.max_eq_right (by omega)]
    rw [this]; exact hp
  · rw [if_neg z]
    have z2 : p.2 ∈ found := Classical.byContradiction fun q => hc ⟨fun a => (z a).elim, fun a => (q a).elim⟩
    refine ⟨z, ⟨p.2, z2, ?_⟩, p, hp, .inl rfl⟩
    have : tieP p.2 p.1 = p := by unfold tieP; rw [Int.min_eq_right (by omega), Int.max_eq_left (by omega)]
    rw [this]; exact hp
theorem near_pos {N found : List Int} {T : List (Int × Int)} (h : GenT N T) {x y : Int} (hx : x ∈ found) (hN : ∀ z ∈ found, z ∈ N) (hy : y ∈ N) (hy2 : y ∉ found) : 0 < (nearL found T).length := by
  refine Classical.byContradiction fun c => hy2 ?_
  have e : nearL found T = [] := List.length_eq_zero_iff.mp (by omega)
  have e := List.filter_eq_nil_iff.mp (List.map_eq_nil_iff.mp e)
  refine genT_all h (F := fun z => z ∈ found) (fun p hp => ?_) (hN x hx) hx y hy
  have := e p hp
  simpa using this
theorem genT_lt {N : List Int} {T : List (Int × Int)} (hN : N.Nodup) (h : GenT N T) : ∀ p ∈ T, p.1 < p.2 := by
  obtain ⟨L, f, hp, hf, _, hm⟩ := genT_mem h
  intro p q
  obtain ⟨k, h1, h2, rfl⟩ := (hm p).mp q
  have h3 := hf k h1 h2
  have nl : L.Nodup := hp.nodup_iff.mpr hN
  have ne : L.getD k 0 ≠ L.getD (f k) 0 := by
    rw [List.getD_eq_getElem?_getD, List.getD_eq_getElem?_getD, List.getElem?_eq_getElem h2, List.getElem?_eq_getElem (show f k < L.length by omega)]
    intro e
    have := (List.getElem_inj nl).mp (show L[k] = L[f k] from e)
    omega
  unfold tieP
  dsimp only
  omega
theorem draw_atC {pa : Addr} {w : Pw} {m : Int} {α : Type} {xs : List α} (h : LP pa w m) (hm : m < 2 ^ 37) (h0 : 0 < xs.length) (h1 : xs.length ≤ 1000) : ∃ (i : Nat) (x : α) (w' : Pw), F_law_draw_v3 [.raw (.ref pa), .val (.int ((xs.length : Nat) : Int))] w = .ok (.val (.int ((i : Nat) : Int))) w' ∧ i < xs.length ∧ xs[i]? = some x ∧ x ∈ xs ∧ LP pa w' (m + 1) := by
  obtain ⟨r, w', e, r0, r1, q⟩ := draw2_ok (b := (xs.length : Int)) h (by omega) (by omega) (by omega)
  obtain ⟨i, rfl⟩ := Int.eq_ofNat_of_zero_le r0
  have hi : i < xs.length := by omega
  exact ⟨i, xs[i], w', e, hi, List.getElem?_eq_getElem hi, List.getElem_mem hi, q⟩
theorem perm_of_sub {l m : List Int} (hl : l.Nodup) (hs : ∀ x ∈ l, x ∈ m) (h : m.length ≤ l.length) : l.Perm m := by
  induction l generalizing m with
  | nil =>
    have : m = [] := List.length_eq_zero_iff.mp (by simpa using h)
    rw [this]
  | cons x l ih =>
    have hx := hs x List.mem_cons_self
    obtain ⟨nx, nl⟩ := List.nodup_cons.mp hl
    have p := List.perm_cons_erase hx
    refine (List.Perm.cons x (ih nl (fun y hy => ?_) ?_)).trans p.symm
    · refine (List.mem_erase_of_ne fun e => ?_).mpr (hs y (List.mem_cons_of_mem _ hy))
      subst e
      exact nx hy
    · have := p.length_eq
      simp at this h
      omega
/-! ### the walks -/
theorem near_step {pa : Addr} {N found : List Int} {T : List (Int × Int)} {near : List Int} {p : Int × Int} {w : Pw} {s5 s6 : Sl} (hl : near.length ≤ 1000) : bod (bTup 2 (bCons (bName 5) (bCons (bName 6) bNil))) b_law_falling_v3_1 (prT p) ⟨[.raw (.ref pa), .val (.list ((N).map .int)), .val (.list ((T).map prT)), .own (found.map .int), .own (near.map .int), s5, s6], w⟩ = .next ⟨[.raw (.ref pa), .val (.list ((N).map .int)), .val (.list ((T).map prT)), .own (found.map .int), .own ((near ++ nearL found [p]).map .int), .val (.int (p.1)), .val (.int (p.2))], w⟩ := by
  obtain ⟨a, b⟩ := p
  have lt : ltS near.length := size_lt (by omega)
  unfold b_law_falling_v3_1 nearL
  by_cases h1 : a ∈ found <;> by_cases h2 : b ∈ found <;> simp -implicitDefEqProofs [prT, h1, h2, lt]
theorem nearL_app {found : List Int} {S T : List (Int × Int)} : nearL found (S ++ T) = nearL found S ++ nearL found T := by
  unfold nearL
  rw [List.filter_append, List.map_append]
theorem nearL_len {found : List Int} {T : List (Int × Int)} : (nearL found T).length ≤ T.length := by
  unfold nearL
  rw [List.length_map]
  exact List.length_filter_le _ _
theorem near_ok {pa : Addr} {N found : List Int} {T : List (Int × Int)} {w : Pw} {s5 s6 : Sl} (hl : T.length ≤ 1000) : ∃ t5 t6, loopF (bTup 2 (bCons (bName 5) (bCons (bName 6) bNil))) b_law_falling_v3_1 (T.map prT) ⟨[.raw (.ref pa), .val (.list ((N).map .int)), .val (.list ((T).map prT)), .own (found.map .int), .own [], s5, s6], w⟩ = .next ⟨[.raw (.ref pa), .val (.list ((N).map .int)), .val (.list ((T).map prT)), .own (found.map .int), .own ((nearL found T).map .int), t5, t6], w⟩ := by
  obtain ⟨s', e, t5, t6, rfl⟩ := loopN (b := bTup 2 (bCons (bName 5) (bCons (bName 6) bNil))) (p := b_law_falling_v3_1) (f := prT) (l := T) (s := ⟨[.raw (.ref pa), .val (.list ((N).map .int)), .val (.list ((T).map prT)), .own (found.map .int), .own [], s5, s6], w⟩)
    (fun i s => ∃ t5 t6, s = ⟨[.raw (.ref pa), .val (.list ((N).map .int)), .val (.list ((T).map prT)), .own (found.map .int), .own ((nearL found (T.take i)).map .int), t5, t6], w⟩) ⟨_, _, rfl⟩ (by
      rintro i p s hi hp ⟨t5, t6, rfl⟩
      have ll := nearL_len (found := found) (T := T.take i)
      rw [List.length_take] at ll
      rw [near_step (by omega), take_succ hi, nearL_app]
      exact ⟨_, rfl, _, _, rfl⟩)
  rw [List.take_length] at e
  exact ⟨t5, t6, e⟩
theorem falling_ok {pa : Addr} {w : Pw} {m : Int} {N : List Int} {T : List (Int × Int)} (h : LP pa w m) (hm : m < 2 ^ 36) (hN : N.Nodup) (h0 : 0 < N.length) (h10 : N.length ≤ 100) (hT : GenT N T) : ∃ (r : List Int) (w' : Pw), F_law_falling_v3 [.raw (.ref pa), .val (.list ((N).map .int)), .val (.list ((T).map prT))] w = .ok (.new (r.map .int)) w' ∧ r.Perm N ∧ Fal T r ∧ LP pa w' (m + 200) := by
  have lT : T.length ≤ 100 := by
    obtain ⟨L, f, hp, _, e, _⟩ := genT_mem hT
    have := hp.length_eq
    omega
  have lt := genT_lt hN hT
  obtain ⟨i, x, w1, e1, hi, ex, mx, q1⟩ := draw_atC (xs := N) h (by omega) h0 (by omega)
  have ax : atI (N.map PyData.int) (i : Int) = some (.int x) := by rw [atI_mapF, atI_nat, ex]; rfl
  obtain ⟨s', e, ⟨r, w', s4, s5, s6, ⟨r0, rn, rs, rf, rq⟩, rfl⟩, hc⟩ := whileF_inv (c := c_law_falling_v3_2) (p := b_law_falling_v3_3) (s := ⟨[.raw (.ref pa), .val (.list ((N).map .int)), .val (.list ((T).map prT)), .own [.int x], .no, .no, .no], w1⟩)
    (fun s => ∃ (r : List Int) (w' : Pw) (s4 s5 s6 : Sl), (0 < r.length ∧ r.Nodup ∧ (∀ z ∈ r, z ∈ N) ∧ Fal T r ∧ LP pa w' (m + r.length)) ∧ s = ⟨[.raw (.ref pa), .val (.list ((N).map .int)), .val (.list ((T).map prT)), .own (r.map .int), s4, s5, s6], w'⟩)
    (fun s => 1000 - (match s.d with | [_, _, _, .own ds, _, _, _] => ds.length | _ => 0)) 10000 ⟨[x], w1, .no, .no, .no, ⟨by simp, by simp, fun z hz => by rw [List.mem_singleton] at hz; rw [hz]; exact mx, fun k k0 k1 => by simp at k1; omega, by simpa using q1⟩, rfl⟩ (by simp) (by
      rintro s ⟨r, w2, s4, s5, s6, ⟨r0, rn, rs, rf, rq⟩, rfl⟩
      have ll := List.Nodup.length_le_of_subset rn rs
      by_cases q : r.length < N.length
      · refine .inl ⟨_, by unfold c_law_falling_v3_2; simp -implicitDefEqProofs [q]; rfl, ?_⟩
        obtain ⟨t5, t6, ep⟩ := near_ok (pa := pa) (N := N) (found := r) (T := T) (w := w2) (s5 := s5) (s6 := s6) (by omega)
        obtain ⟨y, hy, hy2⟩ : ∃ y ∈ N, y ∉ r := Classical.byContradiction fun c => by
          have := List.Nodup.length_le_of_subset hN (fun z hz => Classical.byContradiction fun c2 => c ⟨z, hz, c2⟩ : ∀ z ∈ N, z ∈ r)
          omega
        obtain ⟨x0, hx0⟩ : ∃ x0, x0 ∈ r := ⟨r[0], List.getElem_mem r0⟩
        have np := near_pos hT hx0 rs hy hy2
        have nl := nearL_len (found := r) (T := T)
        obtain ⟨j, z, w3, e3, hj, ez, mz, q3⟩ := draw_atC (xs := nearL r T) rq (by omega) np (by omega)
        obtain ⟨mz1, mz2, ⟨p, hp, hz⟩⟩ := mem_near lt mz
        have az : atI ((nearL r T).map PyData.int) (j : Int) = some (.int z) := by rw [atI_mapF, atI_nat, ez]; rfl
        have mzN : z ∈ N := by
          have := genT_in hT p hp
          rcases hz with e | e <;> rw [e]
          · exact this.1
          · exact this.2
        obtain ⟨M, hM⟩ : ∃ M, M = nearL r T := ⟨_, rfl⟩
        rw [← hM] at ep e3 az
        have ltS1 : ltS r.length := size_lt (by omega)
        have em : r.map PyData.int ++ [.int z] = (r ++ [z]).map .int := by simp
        refine ⟨⟨[.raw (.ref pa), .val (.list ((N).map .int)), .val (.list ((T).map prT)), .own ((r ++ [z]).map .int), .own (M.map .int), t5, t6], w3⟩, ?_, ⟨r ++ [z], w3, _, t5, t6, ⟨by simp, ?_, ?_, fal_snoc rf mz2, by rw [List.length_append, List.length_singleton]; exact q3.mono (by omega)⟩, rfl⟩, ?_⟩
        · unfold b_law_falling_v3_3
          simp -implicitDefEqProofs [ep, e3, az, ltS1, em, -List.map_append, -map_int_inj]
        · rw [List.nodup_append]
          exact ⟨rn, by simp, fun a ha b hb e => by rw [List.mem_singleton] at hb; subst hb; subst e; exact mz1 ha⟩
        · intro u hu
          rcases List.mem_append.mp hu with hu | hu
          · exact rs u hu
          · rw [List.mem_singleton] at hu; rw [hu]; exact mzN
        · show 1000 - ((r ++ [z]).map PyData.int).length < 1000 - (r.map PyData.int).length
          rw [List.length_map, List.length_map, List.length_append, List.length_singleton]
          omega
      · exact .inr (by unfold c_law_falling_v3_2; simp -implicitDefEqProofs [q]))
  have q : ¬ r.length < N.length := by
    intro q
    unfold c_law_falling_v3_2 at hc
    simp -implicitDefEqProofs [q] at hc
  have ll := List.Nodup.length_le_of_subset rn rs
  refine ⟨r, w', ?_, perm_of_sub rn rs (by omega), rf, rq.mono (by omega)⟩
  have s1 : leS 1 := size_le (by omega)
  unfold F_law_falling_v3 p_law_falling_v3
  simp only [x_runF]
  simp -implicitDefEqProofs [e1, ax, s1, e]
theorem draw_lit {pa : Addr} {w : Pw} {m b : Int} (h : LP pa w m) (b0 : 0 < b) (b1 : b < 2 ^ 100) (hm : m < 2 ^ 37) : ∃ (r : Nat) (w' : Pw), F_law_draw_v3 [.raw (.ref pa), .val (.int (b))] w = .ok (.val (.int ((r : Nat) : Int))) w' ∧ (r : Int) < b ∧ LP pa w' (m + 1) := by
  obtain ⟨r, w', e, r0, r1, q⟩ := draw2_ok h b0 b1 (by omega)
  obtain ⟨r, rfl⟩ := Int.eq_ofNat_of_zero_le r0
  exact ⟨r, w', e, r1, q⟩
theorem swap_permC {r : List Int} {k : Nat} (h : k + 1 < r.length) : ((r.set k r[k+1]).set (k + 1) r[k]).Perm r := by
  have e : (r.set k r[k+1]).set (k + 1) r[k] = r.take k ++ r[k+1] :: r[k] :: r.drop (k + 2) := by
    apply List.ext_getElem?
    intro i
    by_cases h1 : i < k
    · rw [List.getElem?_set_ne (by omega), List.getElem?_set_ne (by omega), List.getElem?_append_left (by rw [List.length_take]; omega), List.getElem?_take_of_lt h1]
    · rw [List.getElem?_append_right (by rw [List.length_take]; omega), List.length_take, Nat.min_eq_left (by omega)]
      by_cases h2 : i = k
      · subst h2
        rw [List.getElem?_set_ne (by omega), List.getElem?_set_self (by omega), Nat.sub_self]
        rfl
      · by_cases h3 : i = k + 1
        · subst h3
          rw [List.getElem?_set_self (by rw [List.length_set]; omega), show k + 1 - k = 1 by omega]
          rfl
        · rw [List.getElem?_set_ne (by omega), List.getElem?_set_ne (by omega), show i - k = (i - (k + 2)) + 2 by omega]
          simp only [List.getElem?_cons_succ, List.getElem?_drop]
          congr 1
          omega
  rw [e]
  have e2 : r = r.take k ++ r[k] :: r[k+1] :: r.drop (k + 2) := by
    have h1 := List.drop_eq_getElem_cons (show k < r.length by omega)
    have h2 := List.drop_eq_getElem_cons h
    rw [← h2, ← h1, List.take_append_drop]
  conv => rhs; rw [e2]
  exact List.Perm.append_left _ (List.Perm.swap _ _ _)
theorem folk14_ok {pa : Addr} {w : Pw} {m : Int} {N : List Int} {T : List (Int × Int)} (h : LP pa w m) (hm : m < 2 ^ 35) (hN : N.Nodup) (h0 : 0 < N.length) (h10 : N.length ≤ 100) (hT : GenT N T) : ∃ (f : List (List Int)) (w' : Pw), F_law_folk_v14 [.raw (.ref pa), .val (.list ((N).map .int)), .val (.list ((T).map prT))] w = .ok (.new (f.map llD)) w' ∧ 0 < f.length ∧ f.length ≤ 20 ∧ (∀ r ∈ f, r.Perm N) ∧ LP pa w' (m + 100000) := by
  obtain ⟨way, w1, e1, y1, q1⟩ := draw_lit (b := 4) h (by omega) (by omega) (by omega)
  obtain ⟨c, w2, e2, c1, q2⟩ := draw_lit (b := 3) q1 (by omega) (by omega) (by omega)
  obtain ⟨b, eb, b0, b1⟩ : ∃ b : Int, atI [PyData.int 3, .int 6, .int 20] (c : Int) = some (.int b) ∧ 0 < b ∧ b ≤ 20 := by
    have : c = 0 ∨ c = 1 ∨ c = 2 := by omega
    rcases this with q | q | q <;> rw [q]
    · exact ⟨3, rfl, by omega, by omega⟩
    · exact ⟨6, rfl, by omega, by omega⟩
    · exact ⟨20, rfl, by omega, by omega⟩
  obtain ⟨n, w3, e3, n1, q3⟩ := draw_lit (b := b) q2 (by omega) (by omega) (by omega)
  obtain ⟨s', e, f, w', s5, s6, s7, ⟨lf, pf⟩, qf, rfl⟩ := loopN (b := bName 5) (p := b_law_folk_v14_1) (f := fun k : Nat => PyData.int (0 + (k : Int))) (l := List.range (1 + n)) (s := ⟨[.raw (.ref pa), .val (.list ((N).map .int)), .val (.list ((T).map prT)), .val (.int ((way : Nat) : Int)), .own [], .no, .no, .no], w3⟩)
    (fun i s => ∃ (f : List (List Int)) (w' : Pw) (s5 s6 s7 : Sl), (f.length = i ∧ ∀ r ∈ f, r.Perm N) ∧ LP pa w' (m + 10 + 2000 * i) ∧ s = ⟨[.raw (.ref pa), .val (.list ((N).map .int)), .val (.list ((T).map prT)), .val (.int ((way : Nat) : Int)), .own (f.map llD), s5, s6, s7], w'⟩) ⟨[], w3, _, _, _, ⟨rfl, by simp⟩, q3.mono (by omega), rfl⟩ (by
      rintro i k s hi hk ⟨f, w4, s5, s6, s7, ⟨lf, pf⟩, qf, rfl⟩
      obtain ⟨rfl, hkn⟩ := range_at hi
      have k20 : k < 21 := by omega
      obtain ⟨r, w5, e5, pr, _, q5⟩ := falling_ok qf (by omega) hN h0 h10 hT
      have lr := pr.length_eq
      -- two neighbours
      obtain ⟨r2, w6, s7', e6, pr2, q6⟩ : ∃ (r2 : List Int) (w6 : Pw) (s7' : Sl), (fIfS (fAnd (fB (fOp (lift2 eqO) (fVar 3) (fC (.int 2)))) (fAnd (fB (fOp (lift2 gtO) (fCall lenO (pCons (fVar 1) fNil)) (fC (.int 1)))) (fB (fOp (lift2 eqO) (fUser F_law_draw_v3 (fCons (fVar 0) (fCons (fC (.int 4)) fNil))) (fC (.int 0)))))) (fseq (fSet 7 (fUser F_law_draw_v3 (fCons (fVar 0) (fCons (fOp (lift2 subO) (fCall lenO (pCons (fVar 1) fNil)) (fC (.int 1))) fNil)))) (fSwap 6 (fTup (fCons (fOp (lift2 ixO) (fVar 6) (fOp (lift2 addO) (fVar 7) (fC (.int 1)))) (fCons (fOp (lift2 ixO) (fVar 6) (fVar 7)) fNil))) (fVar 7) (fOp (lift2 addO) (fVar 7) (fC (.int 1))))) fnext) ⟨[.raw (.ref pa), .val (.list ((N).map .int)), .val (.list ((T).map prT)), .val (.int ((way : Nat) : Int)), .own (f.map llD), .val (.int (0 + (k : Int))), .own (r.map .int), s7], w5⟩ = .next ⟨[.raw (.ref pa), .val (.list ((N).map .int)), .val (.list ((T).map prT)), .val (.int ((way : Nat) : Int)), .own (f.map llD), .val (.int (0 + (k : Int))), .own (r2.map .int), s7'], w6⟩ ∧ r2.Perm N ∧ LP pa w6 (m + 10 + 2000 * k + 210) := by
        by_cases c1 : way = 2 ∧ 1 < N.length
        · obtain ⟨c1, c2⟩ := c1
          obtain ⟨x, w6, e6, x1, q6⟩ := draw_lit (b := 4) q5 (by omega) (by omega) (by omega)
          by_cases c3 : x = 0
          · obtain ⟨j, w7, e7, j1, q7⟩ := draw_lit (b := (N.length : Int) - 1) q6 (by omega) (by omega) (by omega)
            have hj : j + 1 < r.length := by omega
            refine ⟨(r.set j r[j+1]).set (j + 1) r[j], w7, .val (.int ((j : Nat) : Int)), ?_, (swap_permC hj).trans pr, q7.mono (by omega)⟩
            have a1 : atI (r.map PyData.int) ((j : Int) + 1) = some (.int r[j+1]) := by
              rw [show ((j : Int) + 1) = ((j + 1 : Nat) : Int) by omega, atI_nat, List.getElem?_map, List.getElem?_eq_getElem hj]; rfl
            have a2 : atI (r.map PyData.int) (j : Int) = some (.int r[j]) := by
              rw [atI_nat, List.getElem?_map, List.getElem?_eq_getElem (show j < r.length by omega)]; rfl
            have i1 : ixN r.length (j : Int) = some j := ixN_in (by omega)
            have i2 : ixN r.length ((j : Int) + 1) = some (j + 1) := by rw [show ((j : Int) + 1) = ((j + 1 : Nat) : Int) by omega]; exact ixN_in hj
            have s2 : leS 2 := size_le (by omega)
            have em : ((r.map PyData.int).set j (.int r[j+1])).set (j + 1) (.int r[j]) = ((r.set j r[j+1]).set (j + 1) r[j]).map .int := by rw [List.map_set, List.map_set]
            have c2' : ((1 : Int) < (N.length : Int)) = True := eq_true (by omega)
            obtain ⟨u, hu⟩ : ∃ u, u = r[j+1] := ⟨_, rfl⟩
            obtain ⟨v, hv⟩ : ∃ v, v = r[j] := ⟨_, rfl⟩
            rw [← hu] at a1 em
            rw [← hv] at a2 em
            rw [← hu, ← hv]
            subst c1 c3
            simp -implicitDefEqProofs [c2', e6, e7, a1, a2, i1, i2, s2, em, -List.map_set]
          · refine ⟨r, w6, s7, ?_, pr, q6.mono (by omega)⟩
            have c2' : ((1 : Int) < (N.length : Int)) = True := eq_true (by omega)
            have c3' : ((x : Int) = 0) = False := eq_false (by omega)
            subst c1
            simp -implicitDefEqProofs [c2', e6, c3]
        · refine ⟨r, w5, s7, ?_, pr, q5.mono (by omega)⟩
          by_cases c2 : way = 2
          · have c3 : ((1 : Int) < (N.length : Int)) = False := eq_false (by omega)
            subst c2
            simp -implicitDefEqProofs [c3]
          · have c3 : ((way : Int) = 2) = False := eq_false (by omega)
            simp -implicitDefEqProofs [c3]
      -- any
      obtain ⟨r3, w7, e7, pr3, q7⟩ : ∃ (r3 : List Int) (w7 : Pw), (fIfS (fB (fOp (lift2 eqO) (fVar 3) (fC (.int 3)))) (fSet 6 (fUser F_law_shuffled_v3 (fCons (fVar 0) (fCons (fVar 1) fNil)))) fnext) ⟨[.raw (.ref pa), .val (.list ((N).map .int)), .val (.list ((T).map prT)), .val (.int ((way : Nat) : Int)), .own (f.map llD), .val (.int (0 + (k : Int))), .own (r2.map .int), s7'], w6⟩ = .next ⟨[.raw (.ref pa), .val (.list ((N).map .int)), .val (.list ((T).map prT)), .val (.int ((way : Nat) : Int)), .own (f.map llD), .val (.int (0 + (k : Int))), .own (r3.map .int), s7'], w7⟩ ∧ r3.Perm N ∧ LP pa w7 (m + 10 + 2000 * k + 1300) := by
        by_cases c1 : way = 3
        · obtain ⟨r3, w7, e7, p3, q7⟩ := shuffled3_ok (N := N) q6 (by omega) (by omega)
          refine ⟨r3, w7, ?_, p3, q7.mono (by omega)⟩
          subst c1
          simp -implicitDefEqProofs [e7]
        · have c3 : ((way : Int) = 3) = False := eq_false (by omega)
          exact ⟨r2, w6, by simp -implicitDefEqProofs [c3], pr2, q6.mono (by omega)⟩
      obtain ⟨r4, w8, e8, pr4, q8⟩ : ∃ (r4 : List Int) (w8 : Pw), (fIfS (fAnd (fB (fOp (lift2 neO) (fVar 4) (fLst fNil))) (fB (fOp (lift2 eqO) (fUser F_law_draw_v3 (fCons (fVar 0) (fCons (fC (.int 6)) fNil))) (fC (.int 0))))) (fSet 6 (fCall listO (pCons (fOp (lift2 ixO) (fVar 4) (fUser F_law_draw_v3 (fCons (fVar 0) (fCons (fCall lenO (pCons (fVar 4) fNil)) fNil)))) fNil))) fnext) ⟨[.raw (.ref pa), .val (.list ((N).map .int)), .val (.list ((T).map prT)), .val (.int ((way : Nat) : Int)), .own (f.map llD), .val (.int (0 + (k : Int))), .own (r3.map .int), s7'], w7⟩ = .next ⟨[.raw (.ref pa), .val (.list ((N).map .int)), .val (.list ((T).map prT)), .val (.int ((way : Nat) : Int)), .own (f.map llD), .val (.int (0 + (k : Int))), .own (r4.map .int), s7'], w8⟩ ∧ r4.Perm N ∧ LP pa w8 (m + 10 + 2000 * ((k + 1 : Nat) : Int)) := by
        by_cases c1 : f = []
        · subst c1
          exact ⟨r3, w7, by simp -implicitDefEqProofs, pr3, q7.mono (by omega)⟩
        · have f0 : 0 < f.length := List.length_pos_iff.mpr c1
          have nf : (f.map llD).isEmpty = false := by
            rw [Bool.eq_false_iff]
            intro z
            rw [List.isEmpty_iff, List.map_eq_nil_iff] at z
            exact c1 z
          obtain ⟨x, w8, e8, x1, q8⟩ := draw_lit (b := 6) q7 (by omega) (by omega) (by omega)
          by_cases c3 : x = 0
          · obtain ⟨j, r4, w9, e9, j1, j2, m4, q9⟩ := draw_atC (xs := f) q8 (by omega) f0 (by omega)
            have aj : atI (f.map llD) (j : Int) = some (llD r4) := by rw [atI_mapF, atI_nat, j2]; rfl
            refine ⟨r4, w9, ?_, pf r4 m4, q9.mono (by omega)⟩
            have el : listO [llD r4] = some (.new (r4.map .int)) := rfl
            have lm : ((f.map llD).length : Int) = (f.length : Int) := by rw [List.length_map]
            obtain ⟨M, hM⟩ : ∃ M, M = f.map llD := ⟨_, rfl⟩
            rw [← hM] at aj nf lm ⊢
            subst c3
            simp -implicitDefEqProofs [nf, e8, lm, e9, aj, el]
          · have c3' : ((x : Int) = 0) = False := eq_false (by omega)
            exact ⟨r3, w8, by simp -implicitDefEqProofs [nf, e8, c3], pr3, q8.mono (by omega)⟩
      have lt : ltS f.length := size_lt (by omega)
      have ap : ∀ r : List Int, esc (.slot 6) ⟨[.raw (.ref pa), .val (.list ((N).map .int)), .val (.list ((T).map prT)), .val (.int ((way : Nat) : Int)), .own (f.map llD), .val (.int (0 + (k : Int))), .own (r.map .int), s7'], w8⟩ = some (.val (llD r), ⟨[.raw (.ref pa), .val (.list ((N).map .int)), .val (.list ((T).map prT)), .val (.int ((way : Nat) : Int)), .own (f.map llD), .val (.int (0 + (k : Int))), .val (llD r), s7'], w8⟩) := fun r => rfl
      have em : f.map llD ++ [PyData.list (r4.map .int)] = (f ++ [r4]).map llD := by rw [List.map_append]; rfl
      refine ⟨⟨[.raw (.ref pa), .val (.list ((N).map .int)), .val (.list ((T).map prT)), .val (.int ((way : Nat) : Int)), .own ((f ++ [r4]).map llD), .val (.int (0 + (k : Int))), .val (llD r4), s7'], w8⟩, ?_, f ++ [r4], w8, _, _, _, ⟨by simp [lf], fun r hr => ?_⟩, q8, rfl⟩
      · simp only [x_bod, x_bName, List.length_cons, List.length_nil]
        rw [if_pos (by omega)]
        show b_law_folk_v14_1 ⟨[.raw (.ref pa), .val (.list ((N).map .int)), .val (.list ((T).map prT)), .val (.int ((way : Nat) : Int)), .own (f.map llD), .val (.int (0 + (k : Int))), s6, s7], w4⟩ = _
        have e5' : (fSet 6 (fUser F_law_falling_v3 (fCons (fVar 0) (fCons (fVar 1) (fCons (fVar 2) fNil))))) ⟨[.raw (.ref pa), .val (.list ((N).map .int)), .val (.list ((T).map prT)), .val (.int ((way : Nat) : Int)), .own (f.map llD), .val (.int (0 + (k : Int))), s6, s7], w4⟩ = .next ⟨[.raw (.ref pa), .val (.list ((N).map .int)), .val (.list ((T).map prT)), .val (.int ((way : Nat) : Int)), .own (f.map llD), .val (.int (0 + (k : Int))), .own (r.map .int), s7], w5⟩ := by simp -implicitDefEqProofs [e5]
        unfold b_law_folk_v14_1
        simp only [fseq, e5', e6, e7, e8, at_next]
        simp -implicitDefEqProofs [lt, em, -List.map_append, llD]
      · rcases List.mem_append.mp hr with hr | hr
        · exact pf r hr
        · rw [List.mem_singleton] at hr; rw [hr]; exact pr4)
  have hB : inB ((1 : Int) + n) := inB_of (by omega) (by omega)
  have et : ((1 : Int) + (n : Int)).toNat = 1 + n := by omega
  rw [List.length_range] at lf qf
  have e' : loopF (bName 5) b_law_folk_v14_1 (rangeD 0 (1 + n)) ⟨[.raw (.ref pa), .val (.list ((N).map .int)), .val (.list ((T).map prT)), .val (.int ((way : Nat) : Int)), .own [], .no, .no, .no], w3⟩ = _ := e
  have s3 : leS 3 := size_le (by omega)
  have s0 : leS 0 := size_le (by omega)
  refine ⟨f, w', ?_, by omega, by omega, pf, qf.mono (by omega)⟩
  unfold F_law_folk_v14 p_law_folk_v14
  simp only [x_runF]
  simp -implicitDefEqProofs [e1, e2, eb, e3, hB, et, e', s3, s0]

end DL

noncomputable section
namespace DL
open PySem L2
def p_names_by : DSt → Flow := fseq (fDrop (fUser F_must_be_folk (fCons (fVar 0) fNil))) (fRet (fCall sortedO (pCons (fOp (lift2 ixO) (fVar 0) (fC (.int 0))) fNil)))
def F_names_by : List R → Pw → FRes := runF 1 1 p_names_by
def t_allowed_1 : M Bool := fB (fOp (lift2 inO) (fVar 5) (fVar 1))
def e_allowed_2 : M R := fVar 5
abbrev l_allowed_2 : M R := fLc (fLstI (fVar 0)) (bName 5) (t_allowed_1) (e_allowed_2) [5]
def p_allowed : DSt → Flow := fseq (fSet 3 (fLc (fLstI (fVar 0)) (bName 5) (t_allowed_1) (e_allowed_2) [5])) (fseq (fSet 4 (fIndex (fVar 3) (fVar 2))) (fseq (fIfS (fB (fOp (lift2 eqO) (fVar 4) (fC (.int 0)))) (fRet (fSlice (fVar 3) (fPart (fC (.int 1))) (fPart (fC (.int 2))))) fnext) (fRet (fSlice (fVar 3) fNoPart (fPart (fVar 4))))))
def F_allowed : List R → Pw → FRes := runF 6 3 p_allowed
def t_hangs_at_1 : M Bool := fB (fOp (lift2 neO) (fVar 6) (fVar 2))
def e_hangs_at_2 : M R := fVar 6
abbrev l_hangs_at_2 : M R := fLc (fLstI (fVar 1)) (bName 6) (t_hangs_at_1) (e_hangs_at_2) [6]
def t_hangs_at_3 : M Bool := fB (fOp (lift2 inO) (fVar 6) (fVar 5))
def e_hangs_at_4 : M R := fVar 6
abbrev l_hangs_at_4 : M R := fLc (fLstI (fVar 3)) (bName 6) (t_hangs_at_3) (e_hangs_at_4) [6]
def b_hangs_at_5 : DSt → Flow := fseq (fSet 5 (fUser F_allowed (fCons (fVar 4) (fCons (fVar 1) (fCons (fVar 2) fNil))))) (fSet 3 (fLc (fLstI (fVar 3)) (bName 6) (t_hangs_at_3) (e_hangs_at_4) [6]))
abbrev o_hangs_at_5 : List PyData → DSt → Flow := loopF (bName 4) b_hangs_at_5
def p_hangs_at : DSt → Flow := fseq (fSet 3 (fLc (fLstI (fVar 1)) (bName 6) (t_hangs_at_1) (e_hangs_at_2) [6])) (fseq (fFor (fLstI (fVar 0)) (bName 4) b_hangs_at_5) (fRet (fVar 3)))
def F_hangs_at : List R → Pw → FRes := runF 7 3 p_hangs_at
def t_law_hangs_1 : M Bool := fB (fOp (lift2 neO) (fVar 8) (fVar 2))
def e_law_hangs_2 : M R := fVar 8
abbrev l_law_hangs_2 : M R := fLc (fLstI (fVar 1)) (bName 8) (t_law_hangs_1) (e_law_hangs_2) [8]
def t_law_hangs_3 : M Bool := fB (fOp (lift2 inO) (fVar 9) (fVar 1))
def e_law_hangs_4 : M R := fVar 9
abbrev l_law_hangs_4 : M R := fLc (fLstI (fVar 4)) (bName 9) (t_law_hangs_3) (e_law_hangs_4) [9]
def t_law_hangs_5 : M Bool := fB (fOp (lift2 inO) (fVar 8) (fVar 7))
def e_law_hangs_6 : M R := fVar 8
abbrev l_law_hangs_6 : M R := fLc (fLstI (fVar 3)) (bName 8) (t_law_hangs_5) (e_law_hangs_6) [8]
def b_law_hangs_7 : DSt → Flow := fseq (fSet 5 (fLc (fLstI (fVar 4)) (bName 9) (t_law_hangs_3) (e_law_hangs_4) [9])) (fseq (fSet 6 (fIndex (fVar 5) (fVar 2))) (fseq (fSet 7 (fOp (lift2 addO) (fSlice (fVar 5) fNoPart (fPart (fVar 6))) (fOp (lift2 mulO) (fSlice (fVar 5) (fPart (fC (.int 1))) (fPart (fC (.int 2)))) (fCall intO (pCons (fOp (lift2 eqO) (fVar 6) (fC (.int 0))) fNil))))) (fSet 3 (fLc (fLstI (fVar 3)) (bName 8) (t_law_hangs_5) (e_law_hangs_6) [8]))))
abbrev o_law_hangs_7 : List PyData → DSt → Flow := loopF (bName 4) b_law_hangs_7
def p_law_hangs : DSt → Flow := fseq (fSet 3 (fLc (fLstI (fVar 1)) (bName 8) (t_law_hangs_1) (e_law_hangs_2) [8])) (fseq (fFor (fLstI (fVar 0)) (bName 4) b_law_hangs_7) (fRet (fVar 3)))
def F_law_hangs : List R → Pw → FRes := runF 10 3 p_law_hangs
/-! where names can hang -/
theorem must_folk_no {n : Nat} {d : PyData} {w : Pw} (hb : bdd n d) (h : folkB d = false) : F_must_be_folk [.val d] w = .err ⟨"NoFolk", none⟩ w := by
  have e := is_folk_any (w := w) hb
  rw [h] at e
  unfold F_must_be_folk p_must_be_folk
  simp only [x_runF]
  simp -implicitDefEqProofs [e]
structure FolkN (N : List Int) (f : List (List Int)) : Prop where
  l0 : 0 < f.length
  l20 : f.length ≤ 20
  p : ∀ r ∈ f, r.Perm N
  rN : Rank N
  s : N.Pairwise (· < ·)
theorem FolkN.folk {N : List Int} {f : List (List Int)} (h : FolkN N f) : Folk f := ⟨h.l0, h.l20, fun r hr => ⟨h.rN.perm (h.p r hr), fun q hq => (h.p q hq).trans (h.p r hr).symm⟩⟩
theorem FolkN.b {N : List Int} {f : List (List Int)} (h : FolkN N f) : bdd 3 (.list (f.map llD)) := bdd_up (n := 2) (by omega) (bdd_folkC (by have := h.l20; omega) fun r hr => by rw [(h.p r hr).length_eq]; have := h.rN.2.2.2; omega)
def alw (r left : List Int) (x : Int) : List Int := if (cutL r left).idxOf x = 0 then ((cutL r left).drop 1).take 1 else (cutL r left).take ((cutL r left).idxOf x)
def hangL (f : List (List Int)) (left : List Int) (x : Int) : List Int := f.foldl (fun found r => found.filter fun y => decide (y ∈ alw r left x)) (left.filter fun y => decide (y ≠ x))
end DL

noncomputable section
namespace DL
open PySem L2
def t_law_marks_v7_1 : M Bool := fB (fVar 5)
def e_law_marks_v7_2 : M R := fVar 4
abbrev l_law_marks_v7_2 : M R := fLc (fZip (fCons (fVar 2) (fCons (fVar 1) fNil))) (bTup 2 (bCons (bName 4) (bCons (bName 5) bNil))) (t_law_marks_v7_1) (e_law_marks_v7_2) [4, 5]
def p_law_marks_v7 : DSt → Flow := fseq (fSet 1 (fLst (fCons (fIsX ["NoFolk", "NoRanking"] "NoRanking" (fVar 0)) (fCons (fIsX ["NoFolk", "NoRanking"] "NoFolk" (fVar 0)) (fCons (fIsY ["NoFolk", "NoRanking"] "NoNames" (fVar 0)) fNil))))) (fseq (fSet 1 (fOp (lift2 addO) (fVar 1) (fLst (fCons (fIsY ["NoFolk", "NoRanking"] "NoFit" (fVar 0)) (fCons (fIsY ["NoFolk", "NoRanking"] "NoLine" (fVar 0)) (fCons (fIsY ["NoFolk", "NoRanking"] "NoNumber" (fVar 0)) fNil)))))) (fseq (fSet 1 (fOp (lift2 addO) (fVar 1) (fLst (fCons (fIsY ["NoFolk", "NoRanking"] "NoTree" (fVar 0)) (fCons (fIsY ["NoFolk", "NoRanking"] "NoPaper" (fVar 0)) (fCons (fIsY ["NoFolk", "NoRanking"] "NoText" (fVar 0)) fNil)))))) (fseq (fSet 1 (fOp (lift2 addO) (fVar 1) (fLst (fCons (fIsY ["NoFolk", "NoRanking"] "NoTitle" (fVar 0)) (fCons (fIsY ["NoFolk", "NoRanking"] "NoRow" (fVar 0)) (fCons (fIsY ["NoFolk", "NoRanking"] "NoBack" (fVar 0)) fNil)))))) (fseq (fSet 1 (fOp (lift2 addO) (fVar 1) (fLst (fCons (fIsY ["NoFolk", "NoRanking"] "TooGreat" (fVar 0)) (fCons (fIsY ["NoFolk", "NoRanking"] "NoWeights" (fVar 0)) (fCons (fIsY ["NoFolk", "NoRanking"] "NoFall" (fVar 0)) fNil)))))) (fseq (fSet 1 (fOp (lift2 addO) (fVar 1) (fLst (fCons (fIsY ["NoFolk", "NoRanking"] "NoTops" (fVar 0)) (fCons (fIsY ["NoFolk", "NoRanking"] "NoFixed" (fVar 0)) (fCons (fIsY ["NoFolk", "NoRanking"] "NoHand" (fVar 0)) fNil)))))) (fseq (fSet 1 (fOp (lift2 addO) (fVar 1) (fLst (fCons (fIsY ["NoFolk", "NoRanking"] "NoRule" (fVar 0)) fNil)))) (fseq (fSet 2 (fSplit (fC (.str "NoRanking NoFolk NoNames NoFit NoLine NoNumber NoTree NoPaper")) (fC (.str " ")))) (fseq (fSet 2 (fOp (lift2 addO) (fVar 2) (fSplit (fC (.str "NoText NoTitle NoRow NoBack TooGreat NoWeights NoFall NoTops")) (fC (.str " "))))) (fseq (fSet 2 (fOp (lift2 addO) (fVar 2) (fSplit (fC (.str "NoFixed NoHand NoRule")) (fC (.str " "))))) (fseq (fSet 3 (fLc (fZip (fCons (fVar 2) (fCons (fVar 1) fNil))) (bTup 2 (bCons (bName 4) (bCons (bName 5) bNil))) (t_law_marks_v7_1) (e_law_marks_v7_2) [4, 5])) (fseq (fIfS (fNot (fB (fIsV ["NoFolk", "NoRanking"] (fVar 0)))) (fDrop (fApp 3 (fC (.str "none")))) fnext) (fRet (fVar 3)))))))))))))
def F_law_marks_v7 : List R → Pw → FRes := runF 6 1 p_law_marks_v7
def b_law_told_v33_1 : DSt → Flow := fseq (fIfS (fB (fOp (lift2 eqO) (fVar 0) (fC (.int 0)))) (fDrop (fUser F_ranking_text (fCons (fVar 3) fNil))) fnext) (fIfS (fB (fOp (lift2 eqO) (fVar 0) (fC (.int 1)))) (fDrop (fUser F_folk_text (fCons (fVar 3) fNil))) fnext)
def p_law_told_v33 : DSt → Flow := fseq (fSet 2 (fC .none)) (fseq (fSet 3 (fUser (F_law_copied 6) (fCons (fVar 1) fNil))) (fseq (fTry ["NoFolk", "NoRanking"] 4 2 b_law_told_v33_1) (fseq (fIfS (fB (fOp (lift2 neO) (fVar 3) (fVar 1))) (fRet (fLst (fCons (fC (.str "changed")) fNil))) fnext) (fRet (fUser F_law_marks_v7 (fCons (fVar 2) fNil))))))
def F_law_told_v33 : List R → Pw → FRes := runF 5 2 p_law_told_v33
def e_law_great_v2_1 : M R := fOp (lift2 subO) (fOp (lift2 subO) (fOp (lift2 addO) (fVar 2) (fOp (lift2 powO) (fC (.int 10)) (fC (.int 30)))) (fC (.int 2))) (fOp (lift2 ixO) (fVar 1) (fUn (lift1 negO) (fC (.int 1))))
abbrev l_law_great_v2_1 : M R := fLc (fLstI (fVar 1)) (bName 2) fYes (e_law_great_v2_1) [2]
def p_law_great_v2 : DSt → Flow := fseq (fIfS (fB (fOp (lift2 gtO) (fUser F_law_draw_v3 (fCons (fVar 0) (fCons (fC (.int 4)) fNil))) (fC (.int 0)))) (fRet (fVar 1)) fnext) (fRet (fLc (fLstI (fVar 1)) (bName 2) fYes (e_law_great_v2_1) [2]))
def F_law_great_v2 : List R → Pw → FRes := runF 3 2 p_law_great_v2
theorem law_marks_v7_NoRanking {w : Pw} : F_law_marks_v7 [.ob (.exc ⟨"NoRanking", none⟩)] w = .ok (.new [.str "NoRanking"]) w := by
  have sp0 : Txt.split (Str.ofString "NoRanking NoFolk NoNames NoFit NoLine NoNumber NoTree NoPaper") (Str.ofString " ") = (["NoRanking", "NoFolk", "NoNames", "NoFit", "NoLine", "NoNumber", "NoTree", "NoPaper"] : List Str) := by decide +kernel
  have cc0 : ((Str.ofString " ").length == 0) = false ∧ leS ((Str.ofString "NoRanking NoFolk NoNames NoFit NoLine NoNumber NoTree NoPaper").length + 2) := ⟨by decide +kernel, size_le (by decide +kernel)⟩
  have sp1 : Txt.split (Str.ofString "NoText NoTitle NoRow NoBack TooGreat NoWeights NoFall NoTops") (Str.ofString " ") = (["NoText", "NoTitle", "NoRow", "NoBack", "TooGreat", "NoWeights", "NoFall", "NoTops"] : List Str) := by decide +kernel
  have cc1 : ((Str.ofString " ").length == 0) = false ∧ leS ((Str.ofString "NoText NoTitle NoRow NoBack TooGreat NoWeights NoFall NoTops").length + 2) := ⟨by decide +kernel, size_le (by decide +kernel)⟩
  have sp2 : Txt.split (Str.ofString "NoFixed NoHand NoRule") (Str.ofString " ") = (["NoFixed", "NoHand", "NoRule"] : List Str) := by decide +kernel
  have cc2 : ((Str.ofString " ").length == 0) = false ∧ leS ((Str.ofString "NoFixed NoHand NoRule").length + 2) := ⟨by decide +kernel, size_le (by decide +kernel)⟩
  obtain ⟨Ws, hWs⟩ : ∃ Ws : List PyData, [PyData.str "NoRanking", PyData.str "NoFolk", PyData.str "NoNames", PyData.str "NoFit", PyData.str "NoLine", PyData.str "NoNumber", PyData.str "NoTree", PyData.str "NoPaper", PyData.str "NoText", PyData.str "NoTitle", PyData.str "NoRow", PyData.str "NoBack", PyData.str "TooGreat", PyData.str "NoWeights", PyData.str "NoFall", PyData.str "NoTops", PyData.str "NoFixed", PyData.str "NoHand", PyData.str "NoRule"] = Ws := ⟨_, rfl⟩
  obtain ⟨Hs, hHs⟩ : ∃ Hs : List PyData, [PyData.bool true, PyData.bool false, PyData.bool false, PyData.bool false, PyData.bool false, PyData.bool false, PyData.bool false, PyData.bool false, PyData.bool false, PyData.bool false, PyData.bool false, PyData.bool false, PyData.bool false, PyData.bool false, PyData.bool false, PyData.bool false, PyData.bool false, PyData.bool false, PyData.bool false] = Hs := ⟨_, rfl⟩
  obtain ⟨L, hL, lL, fL⟩ : ∃ L : List (Str × Bool), zipD Ws Hs = L.map tgC ∧ L.length = 19 ∧ (L.filter (·.2)).map (fun p => PyData.str p.1) = [.str "NoRanking"] := by
    refine ⟨[("NoRanking", true), ("NoFolk", false), ("NoNames", false), ("NoFit", false), ("NoLine", false), ("NoNumber", false), ("NoTree", false), ("NoPaper", false), ("NoText", false), ("NoTitle", false), ("NoRow", false), ("NoBack", false), ("TooGreat", false), ("NoWeights", false), ("NoFall", false), ("NoTops", false), ("NoFixed", false), ("NoHand", false), ("NoRule", false)], ?_, rfl, rfl⟩
    rw [← hWs, ← hHs]; rfl
  have e : l_law_marks_v7_2 ⟨[.ob (.exc ⟨"NoRanking", none⟩), .own Hs, .own Ws, .no, .no, .no], w⟩ = .ok (.new ((L.filter (·.2)).map fun p => .str p.1)) ⟨[.ob (.exc ⟨"NoRanking", none⟩), .val (.list Hs), .val (.list Ws), .no, .no, .no], w⟩ := by
    refine lc_gen (fun p : Str × Bool => ⟨[.ob (.exc ⟨"NoRanking", none⟩), .val (.list Hs), .val (.list Ws), .no, .val (.str p.1), .val (.bool p.2)], w⟩) _ _ (f := tgC) (l := L) (by simp -implicitDefEqProofs [hL]) (by omega) rfl (fun a _ => by rfl) (fun a _ => by rfl) (fun p hp => ?_) (fun p hp _ => ?_)
    · unfold t_law_marks_v7_1
      simp -implicitDefEqProofs
    · unfold e_law_marks_v7_2
      simp -implicitDefEqProofs
  rw [fL] at e
  have s1 : leS 1 := size_le (by omega)
  have s3 : leS 3 := size_le (by omega)
  have s6 : leS 6 := size_le (by omega)
  have s9 : leS 9 := size_le (by omega)
  have s12 : leS 12 := size_le (by omega)
  have s15 : leS 15 := size_le (by omega)
  have s18 : leS 18 := size_le (by omega)
  have s19 : leS 19 := size_le (by omega)
  have s16 : leS 16 := size_le (by omega)
  unfold F_law_marks_v7 p_law_marks_v7
  simp only [x_runF]
  simp -implicitDefEqProofs [s1, s3, s6, s9, s12, s15, s18, s19, s16, sp0, sp1, sp2, cc0, cc1, cc2, hWs, hHs, e]
theorem law_marks_v7_NoFolk {w : Pw} : F_law_marks_v7 [.ob (.exc ⟨"NoFolk", none⟩)] w = .ok (.new [.str "NoFolk"]) w := by
  have sp0 : Txt.split (Str.ofString "NoRanking NoFolk NoNames NoFit NoLine NoNumber NoTree NoPaper") (Str.ofString " ") = (["NoRanking", "NoFolk", "NoNames", "NoFit", "NoLine", "NoNumber", "NoTree", "NoPaper"] : List Str) := by decide +kernel
  have cc0 : ((Str.ofString " ").length == 0) = false ∧ leS ((Str.ofString "NoRanking NoFolk NoNames NoFit NoLine NoNumber NoTree NoPaper").length + 2) := ⟨by decide +kernel, size_le (by decide +kernel)⟩
  have sp1 : Txt.split (Str.ofString "NoText NoTitle NoRow NoBack TooGreat NoWeights NoFall NoTops") (Str.ofString " ") = (["NoText", "NoTitle", "NoRow", "NoBack", "TooGreat", "NoWeights", "NoFall", "NoTops"] : List Str) := by decide +kernel
  have cc1 : ((Str.ofString " ").length == 0) = false ∧ leS ((Str.ofString "NoText NoTitle NoRow NoBack TooGreat NoWeights NoFall NoTops").length + 2) := ⟨by decide +kernel, size_le (by decide +kernel)⟩
  have sp2 : Txt.split (Str.ofString "NoFixed NoHand NoRule") (Str.ofString " ") = (["NoFixed", "NoHand", "NoRule"] : List Str) := by decide +kernel
  have cc2 : ((Str.ofString " ").length == 0) = false ∧ leS ((Str.ofString "NoFixed NoHand NoRule").length + 2) := ⟨by decide +kernel, size_le (by decide +kernel)⟩
  obtain ⟨Ws, hWs⟩ : ∃ Ws : List PyData, [PyData.str "NoRanking", PyData.str "NoFolk", PyData.str "NoNames", PyData.str "NoFit", PyData.str "NoLine", PyData.str "NoNumber", PyData.str "NoTree", PyData.str "NoPaper", PyData.str "NoText", PyData.str "NoTitle", PyData.str "NoRow", PyData.str "NoBack", PyData.str "TooGreat", PyData.str "NoWeights", PyData.str "NoFall", PyData.str "NoTops", PyData.str "NoFixed", PyData.str "NoHand", PyData.str "NoRule"] = Ws := ⟨_, rfl⟩
  obtain ⟨Hs, hHs⟩ : ∃ Hs : List PyData, [PyData.bool false, PyData.bool true, PyData.bool false, PyData.bool false, PyData.bool false, PyData.bool false, PyData.bool false, PyData.bool false, PyData.bool false, PyData.bool false, PyData.bool false, PyData.bool false, PyData.bool false, PyData.bool false, PyData.bool false, PyData.bool false, PyData.bool false, PyData.bool false, PyData.bool false] = Hs := ⟨_, rfl⟩
  obtain ⟨L, hL, lL, fL⟩ : ∃ L : List (Str × Bool), zipD Ws Hs = L.map tgC ∧ L.length = 19 ∧ (L.filter (·.2)).map (fun p => PyData.str p.1) = [.str "NoFolk"] := by
    refine ⟨[("NoRanking", false), ("NoFolk", true), ("NoNames", false), ("NoFit", false), ("NoLine", false), ("NoNumber", false), ("NoTree", false), ("NoPaper", false), ("NoText", false), ("NoTitle", false), ("NoRow", false), ("NoBack", false), ("TooGreat", false), ("NoWeights", false), ("NoFall", false), ("NoTops", false), ("NoFixed", false), ("NoHand", false), ("NoRule", false)], ?_, rfl, rfl⟩
    rw [← hWs, ← hHs]; rfl
  have e : l_law_marks_v7_2 ⟨[.ob (.exc ⟨"NoFolk", none⟩), .own Hs, .own Ws, .no, .no, .no], w⟩ = .ok (.new ((L.filter (·.2)).map fun p => .str p.1)) ⟨[.ob (.exc ⟨"NoFolk", none⟩), .val (.list Hs), .val (.list Ws), .no, .no, .no], w⟩ := by
    refine lc_gen (fun p : Str × Bool => ⟨[.ob (.exc ⟨"NoFolk", none⟩), .val (.list Hs), .val (.list Ws), .no, .val (.str p.1), .val (.bool p.2)], w⟩) _ _ (f := tgC) (l := L) (by simp -implicitDefEqProofs [hL]) (by omega) rfl (fun a _ => by rfl) (fun a _ => by rfl) (fun p hp => ?_) (fun p hp _ => ?_)
    · unfold t_law_marks_v7_1
      simp -implicitDefEqProofs
    · unfold e_law_marks_v7_2
      simp -implicitDefEqProofs
  rw [fL] at e
  have s1 : leS 1 := size_le (by omega)
  have s3 : leS 3 := size_le (by omega)
  have s6 : leS 6 := size_le (by omega)
  have s9 : leS 9 := size_le (by omega)
  have s12 : leS 12 := size_le (by omega)
  have s15 : leS 15 := size_le (by omega)
  have s18 : leS 18 := size_le (by omega)
  have s19 : leS 19 := size_le (by omega)
  have s16 : leS 16 := size_le (by omega)
  unfold F_law_marks_v7 p_law_marks_v7
  simp only [x_runF]
  simp -implicitDefEqProofs [s1, s3, s6, s9, s12, s15, s18, s19, s16, sp0, sp1, sp2, cc0, cc1, cc2, hWs, hHs, e]
theorem must_rank8 {d : PyData} {w : Pw} (hl : lenOk d) (h : rankB d = false) : F_must_be_ranking [.val d] w = .err ⟨"NoRanking", none⟩ w := by
  have e := is_ranking_any (w := w) hl
  rw [h] at e
  unfold F_must_be_ranking p_must_be_ranking
  simp only [x_runF]
  simp -implicitDefEqProofs [e]
theorem told_rank {d : PyData} {n : Nat} {w : Pw} (b : bdd n d) (hn : n < 6) (h : rankB d = false) : F_law_told_v33 [.val (.int (0)), .val d] w = .ok (.new [.str "NoRanking"]) w := by
  have e0 := copC_ok (m := 6) (w := w) b hn
  have e1 : F_ranking_text [.val d] w = .err ⟨"NoRanking", none⟩ w := by
    have e := must_rank8 (w := w) (bdd_len b) h
    unfold F_ranking_text p_ranking_text
    simp only [x_runF]
    simp -implicitDefEqProofs [e]
  have nd := neO_self b (by omega)
  have mk := law_marks_v7_NoRanking (w := w)
  unfold F_law_told_v33 p_law_told_v33
  simp only [x_runF]
  cases d with
  | list ds => simp -implicitDefEqProofs [e0, cpC, b_law_told_v33_1, e1, nd, mk]
  | none => simp -implicitDefEqProofs [e0, cpC, b_law_told_v33_1, e1, nd, mk]
  | bool c => simp -implicitDefEqProofs [e0, cpC, b_law_told_v33_1, e1, nd, mk]
  | int c => simp -implicitDefEqProofs [e0, cpC, b_law_told_v33_1, e1, nd, mk]
  | str c => simp -implicitDefEqProofs [e0, cpC, b_law_told_v33_1, e1, nd, mk]
  | tuple ds => simp -implicitDefEqProofs [e0, cpC, b_law_told_v33_1, e1, nd, mk]
  | _ => unfold bdd at b; cases n <;> simp at b
theorem told_folk {d : PyData} {n : Nat} {w : Pw} (b : bdd n d) (hn : n < 6) (h : folkB d = false) : F_law_told_v33 [.val (.int (1)), .val d] w = .ok (.new [.str "NoFolk"]) w := by
  have e0 := copC_ok (m := 6) (w := w) b hn
  have e1 : F_folk_text [.val d] w = .err ⟨"NoFolk", none⟩ w := by
    have e := must_folk_no (w := w) b h
    unfold F_folk_text p_folk_text
    simp only [x_runF]
    simp -implicitDefEqProofs [e]
  have nd := neO_self b (by omega)
  have mk := law_marks_v7_NoFolk (w := w)
  unfold F_law_told_v33 p_law_told_v33
  simp only [x_runF]
  cases d with
  | list ds => simp -implicitDefEqProofs [e0, cpC, b_law_told_v33_1, e1, nd, mk]
  | none => simp -implicitDefEqProofs [e0, cpC, b_law_told_v33_1, e1, nd, mk]
  | bool c => simp -implicitDefEqProofs [e0, cpC, b_law_told_v33_1, e1, nd, mk]
  | int c => simp -implicitDefEqProofs [e0, cpC, b_law_told_v33_1, e1, nd, mk]
  | str c => simp -implicitDefEqProofs [e0, cpC, b_law_told_v33_1, e1, nd, mk]
  | tuple ds => simp -implicitDefEqProofs [e0, cpC, b_law_told_v33_1, e1, nd, mk]
  | _ => unfold bdd at b; cases n <;> simp at b

end DL

noncomputable section
namespace DL
open PySem L2

theorem pow30 : ∃ T : Int, T = 10 ^ 30 ∧ powO (.int 10) (.int 30) = some (.val (.int T)) := by
  obtain ⟨n, hn⟩ : ∃ n : Nat, n = 30 := ⟨_, rfl⟩
  refine ⟨10 ^ n, by rw [hn], ?_⟩
  rw [hn]
  exact pow_ok (by omega) (by omega) (by omega) (by omega)
theorem great_ok {pa : Addr} {w : Pw} {m : Int} {N : List Int} (h : LP pa w m) (hm : m < 2 ^ 36) (h0 : 0 < N.length) (h10 : N.length ≤ 10) (hs : N.Pairwise (· < ·)) (hb : ∀ x ∈ N, 0 ≤ x ∧ x ≤ 100000000000) :
    ∃ (M : List Int) (w' : Pw), (F_law_great_v2 [.raw (.ref pa), .val (.list ((N).map .int))] w = .ok (.val (.list ((M).map .int))) w' ∨ F_law_great_v2 [.raw (.ref pa), .val (.list ((N).map .int))] w = .ok (.new (M.map .int)) w') ∧ M.length = N.length ∧ M.Pairwise (· < ·) ∧ (∀ x ∈ M, 0 ≤ x ∧ x + 1 < 10 ^ 30) ∧ LP pa w' (m + 1) := by
  obtain ⟨r, w1, e1, r1, q1⟩ := draw_lit (b := 4) h (by omega) (by omega) (by omega)
  have big : (100000000000 : Int) + 2 < 10 ^ 30 := by decide +kernel
  by_cases z : r = 0
  · subst z
    obtain ⟨T, hT, hP⟩ := pow30
    obtain ⟨K, z, rfl⟩ : ∃ K z, N = K ++ [z] := ⟨_, _, (List.dropLast_concat_getLast (List.length_pos_iff.mp h0)).symm⟩
    have zl : ∀ x ∈ K ++ [z], x ≤ z := fun x hx => by
      rcases List.mem_append.mp hx with q | q
      · have := (List.pairwise_append.mp hs).2.2 x q z (by simp); omega
      · simp at q; omega
    have zb := hb z (by simp)
    obtain ⟨N, hN⟩ : ∃ N, K ++ [z] = N := ⟨_, rfl⟩
    have la : atI (N.map PyData.int) (-1) = some (.int z) := by rw [← hN, List.map_append]; exact atI_last _ _
    rw [hN] at h0 h10 hs hb zl ⊢
    have ec : l_law_great_v2_1 ⟨[.raw (.ref pa), .val (.list ((N).map .int)), .no], w1⟩ = .ok (.new ((N.map fun x => x + T - 2 - z).map .int)) ⟨[.raw (.ref pa), .val (.list ((N).map .int)), .no], w1⟩ := by
      rw [List.map_map]
      refine lc_all (fun x : Int => ⟨[.raw (.ref pa), .val (.list ((N).map .int)), .val (.int (x))], w1⟩) _ (f := .int) (l := N) (by simp -implicitDefEqProofs) (by omega) rfl (fun a _ => by rfl) (fun a _ => by rfl) (fun x hx => ?_)
      obtain ⟨ND, hND⟩ : ∃ ND, N.map PyData.int = ND := ⟨_, rfl⟩
      rw [hND] at la ⊢
      unfold e_law_great_v2_1
      simp -implicitDefEqProofs [hP, la]
    refine ⟨N.map fun x => x + T - 2 - z, w1, .inr ?_, by simp, ?_, ?_, q1⟩
    · obtain ⟨MD, hMD⟩ : ∃ MD, (N.map fun x => x + T - 2 - z).map PyData.int = MD := ⟨_, rfl⟩
      rw [hMD] at ec ⊢
      unfold F_law_great_v2 p_law_great_v2
      simp only [x_runF]
      simp -implicitDefEqProofs [e1, ec]
    · rw [List.pairwise_map]
      exact hs.imp fun h => by omega
    · intro x hx
      obtain ⟨y, hy, rfl⟩ := List.mem_map.mp hx
      have := hb y hy
      have := zl y hy
      rw [← hT] at big ⊢
      omega
  · refine ⟨N, w1, .inl ?_, rfl, hs, fun x hx => ?_, q1⟩
    · have r0 : 0 < r := by omega
      unfold F_law_great_v2 p_law_great_v2
      simp only [x_runF]
      simp -implicitDefEqProofs [e1, r0]
    · have := hb x hx
      omega

end DL

noncomputable section
namespace DL
open PySem L2
def e_law_copiedD_1 (rec : List R → Pw → FRes) : M R := fUser rec (fCons (fVar 1) fNil)
def e_law_copiedD_2 (rec : List R → Pw → FRes) : M R := fUser rec (fCons (fVar 1) fNil)
def p_law_copiedD (rec : List R → Pw → FRes) : DSt → Flow := fseq (fIfS (fB (fIsi "tuple" (fVar 0))) (fRet (fTupN (fLc (fLstI (fVar 0)) (bName 1) fYes (e_law_copiedD_1 rec) [1]))) fnext) (fseq (fIfS (fB (fIsi "list" (fVar 0))) (fRet (fLc (fLstI (fVar 0)) (bName 1) fYes (e_law_copiedD_2 rec) [1])) fnext) (fRet (fLfO (fVar 0))))
def F_law_copiedD : Nat → List R → Pw → FRes
  | 0 => runF 2 1 fnever
  | m + 1 => runF 2 1 (p_law_copiedD (F_law_copiedD m))
/-! copies that are new all through; what is emptied -/
theorem bdd_dle : ∀ {n : Nat} {d : PyData}, bdd n d → dle n d
  | 0, .list ds, b => by unfold bdd at b; exact b.elim
  | 0, .tuple ds, b => by unfold bdd at b; exact b.elim
  | n + 1, .list ds, b => by
    rw [bdd_list] at b
    unfold dle
    exact fun d hd => bdd_dle (b.2 d hd)
  | n + 1, .tuple ds, b => by
    rw [bdd_tuple] at b
    unfold dle
    exact fun d hd => bdd_dle (b.2 d hd)
  | 0, .none, _ | 0, .int _, _ | 0, .bool _, _ | 0, .str _, _ | 0, .dict _, _ => by unfold dle; trivial
  | n + 1, .none, _ | n + 1, .int _, _ | n + 1, .bool _, _ | n + 1, .str _, _ | n + 1, .dict _, _ => by unfold dle; trivial

end DL

noncomputable section
namespace DL
open PySem L2

/-! odd things for rankings and folk -/
theorem folkB_head {d : PyData} {ds : List PyData} (h : ∀ xs, d ≠ .list xs) : folkB (.list (d :: ds)) = false := by
  rw [Bool.eq_false_iff]
  intro z
  obtain ⟨f, e, _⟩ := folkB_iff.mp z
  cases f with
  | nil => cases e
  | cons r f =>
    have e := PyData.list.inj e
    exact h _ (List.cons.inj e).1
theorem folkB_off {d : PyData} (h : ∀ xs, d ≠ .list xs) : folkB d = false := by
  rw [Bool.eq_false_iff]
  intro z
  obtain ⟨f, e, _⟩ := folkB_iff.mp z
  exact h _ e
theorem folkB_size {ds : List PyData} (h : ds.length = 0 ∨ 20 < ds.length) : folkB (.list ds) = false := by
  rw [Bool.eq_false_iff]
  intro z
  obtain ⟨f, e, hf⟩ := folkB_iff.mp z
  cases e
  rw [List.length_map] at h
  have := hf.1
  have := hf.2.1
  omega
theorem folkB_one {d : PyData} (h : rankB d = false) : folkB (.list [d]) = false := by
  rw [Bool.eq_false_iff]
  intro z
  obtain ⟨f, e, hf⟩ := folkB_iff.mp z
  cases f with
  | nil => cases e
  | cons r f =>
    have e := (List.cons.inj (PyData.list.inj e)).1
    rw [e] at h
    unfold llD at h
    rw [rankB_ints, decide_eq_false_iff_not] at h
    exact h (hf.2.2 r (by simp)).1
theorem folkB_two {f : List (List Int)} {a b : List Int} (ha : a ∈ f) (hb : b ∈ f) (h : ¬ b.Perm a) : folkB (.list (f.map llD)) = false := by
  rw [Bool.eq_false_iff]
  intro z
  obtain ⟨g, e, hg⟩ := folkB_iff.mp z
  have e : f = g := (List.map_inj_right (fun x y q => by
    unfold llD at q
    exact (List.map_inj_right (fun a b h => by cases h; rfl)).mp (PyData.list.inj q))).mp (PyData.list.inj e)
  subst e
  exact h ((hg.2.2 a ha).2 b hb)
theorem rankB_bad {ds : List PyData} {x : PyData} (hx : x ∈ ds) (h : nameB x = false) : rankB (.list ds) = false := by
  rw [Bool.eq_false_iff]
  intro z
  obtain ⟨ns, e, hr⟩ := rankB_some z
  cases e
  obtain ⟨y, hy, rfl⟩ := List.mem_map.mp hx
  have := hr.2.1 y hy
  simp [nameB] at h
  omega
structure Odd8 (d : PyData) : Prop where
  b : bdd 2 d
  r : rankB d = false
  f : folkB d = false
theorem Odd8.o {d : PyData} (h : Odd8 d) : folkB (.list [d]) = false := folkB_one h.r
theorem odds8 {r : List Int} (hr : Rank r) {d : PyData} (hd : d ∈ [PyData.none, .tuple [], .list [], .tuple (r.map .int), .list (r.map .int ++ (r.take 1).map .int), .list (.int (-1) :: r.map .int), .list [.bool true], .list [.str (Str.ofString "1")], .list (rangeD 0 11), .str (Str.ofString "1>2"), .int 7]) : Odd8 d := by
  have l10 := hr.2.2.2
  have l0 := hr.2.2.1
  have bi : ∀ n : Nat, ∀ x ∈ r.map PyData.int, bdd n x := fun n x hx => by obtain ⟨z, _, rfl⟩ := List.mem_map.mp hx; simp
  simp only [List.mem_cons, List.not_mem_nil, or_false] at hd
  rcases hd with rfl | rfl | rfl | rfl | rfl | rfl | rfl | rfl | rfl | rfl | rfl
  · exact ⟨by simp, rfl, folkB_off (by simp)⟩
  · exact ⟨by simp, rfl, folkB_off (by simp)⟩
  · refine ⟨by simp, ?_, folkB_size (.inl rfl)⟩
    rw [Bool.eq_false_iff]
    intro z
    obtain ⟨ns, e, h2⟩ := rankB_some z
    cases ns with
    | nil => have := h2.2.2.1; simp at this
    | cons _ _ => cases e
  · exact ⟨bdd_tuple.mpr ⟨by rw [List.length_map]; omega, bi _⟩, rfl, folkB_off (by simp)⟩
  · cases r with
    | nil => simp at l0
    | cons a r =>
      refine ⟨bdd_list.mpr ⟨by simp at l10 ⊢; omega, fun x hx => ?_⟩, ?_, folkB_head (by simp)⟩
      · rcases List.mem_append.mp hx with hx | hx
        · exact bi _ x hx
        · obtain ⟨z, _, rfl⟩ := List.mem_map.mp hx; simp
      · rw [← List.map_append, rankB_ints, decide_eq_false_iff_not]
        intro h2
        have := h2.1
        rw [List.nodup_append] at this
        exact this.2.2 a (by simp) a (by simp) rfl
  · exact ⟨bdd_list.mpr ⟨by simp; omega, fun x hx => by
      rcases List.mem_cons.mp hx with rfl | hx
      · simp
      · exact bi _ x hx⟩, rankB_bad (x := .int (-1)) (by simp) (by simp [nameB]), folkB_head (by simp)⟩
  · exact ⟨by simp, rankB_bad (x := .bool true) (by simp) rfl, folkB_head (by simp)⟩
  · exact ⟨by simp, rankB_bad (x := .str (Str.ofString "1")) (by simp) rfl, folkB_head (by simp)⟩
  · refine ⟨by simp [rangeD], ?_, folkB_head (by simp)⟩
    rw [Bool.eq_false_iff]
    intro z
    obtain ⟨ns, e, h2⟩ := rankB_some z
    have := h2.2.2.2
    have e : rangeD 0 11 = ns.map PyData.int := PyData.list.inj e
    have := congrArg List.length e
    simp [rangeD] at this
    omega
  · exact ⟨by simp, rfl, folkB_off (by simp)⟩
  · exact ⟨by simp, rfl, folkB_off (by simp)⟩

end DL

noncomputable section
namespace DL
open PySem L2
def e_law_k80_1 : M R := fOp (lift2 addO) (fUser F_law_word (fCons (fVar 13) fNil)) (fC (.str "\n"))
abbrev l_law_k80_1 : M R := fLc (fLstI (fVar 4)) (bName 13) fYes (e_law_k80_1) [13]
def e_law_k80_2 : M R := fUser F_ranking_text (fCons (fVar 8) fNil)
abbrev l_law_k80_2 : M R := fLc (fLstI (fVar 5)) (bName 8) fYes (e_law_k80_2) [8]
def u_law_k80_3 : DSt → Flow := fseqU (uIf (fOr (fNot (fB (fIsi "list" (fVar 7)))) (fB (fOp (lift2 neO) (fVar 7) (fVar 4)))) (fRet (fC (.bool false)))) (fUMut (fun d _ => dle 5 d) 7 [7] (fseq (fSet 8 (fUser F_read_ranking_v8 (fCons (fUser F_law_word (fCons (fOp (lift2 ixO) (fVar 4) (fUn (lift1 negO) (fC (.int 1)))) fNil)) fNil))) (fseq (fIfS (fOr (fB (fOp (lift2 neO) (fVar 8) (fOp (lift2 ixO) (fVar 4) (fUn (lift1 negO) (fC (.int 1)))))) (fB (fOp (lift2 neO) (fUser F_read_folk_v5 (fCons (fVar 6) fNil)) (fVar 4)))) (fRet (fC (.bool false))) fnext) (fseq (fDrop (fClear 8)) (fseq (fIfS (fB (fOp (lift2 neO) (fUser F_read_ranking_v8 (fCons (fUser F_law_word (fCons (fOp (lift2 ixO) (fVar 4) (fUn (lift1 negO) (fC (.int 1)))) fNil)) fNil)) (fOp (lift2 ixO) (fVar 4) (fUn (lift1 negO) (fC (.int 1)))))) (fRet (fC (.bool false))) fnext) (fseq (fSet 9 (fOp (lift2 ixO) (fVar 4) (fC (.int 0)))) (fseq (fSet 10 (fLst (fCons (fC .none) (fCons (fTup fNil) (fCons (fLst fNil) (fCons (fCall tupleO (pCons (fVar 9) fNil)) (fCons (fOp (lift2 addO) (fVar 9) (fSlice (fVar 9) fNoPart (fPart (fC (.int 1))))) (fCons (fOp (lift2 addO) (fLst (fCons (fUn (lift1 negO) (fC (.int 1))) fNil)) (fVar 9)) fNil)))))))) (fseq (fSet 10 (fOp (lift2 addO) (fVar 10) (fLst (fCons (fLst (fCons (fC (.bool true)) fNil)) (fCons (fLst (fCons (fC (.str "1")) fNil)) (fCons (fLRng1 (fC (.int 11))) (fCons (fC (.str "1>2")) (fCons (fC (.int 7)) fNil)))))))) (fseq (fSet 11 (fOp (lift2 ixO) (fVar 10) (fUser F_law_draw_v3 (fCons (fVar 2) (fCons (fCall lenO (pCons (fVar 10) fNil)) fNil))))) (fseq (fIfS (fOr (fB (fOp (lift2 neO) (fUser F_law_told_v33 (fCons (fC (.int 0)) (fCons (fVar 11) fNil))) (fLst (fCons (fC (.str "NoRanking")) fNil)))) (fB (fOp (lift2 neO) (fUser F_law_told_v33 (fCons (fC (.int 1)) (fCons (fLst (fCons (fVar 11) fNil)) fNil))) (fLst (fCons (fC (.str "NoFolk")) fNil))))) (fRet (fC (.bool false))) fnext) (fseq (fIfS (fB (fOp (lift2 neO) (fUser F_law_told_v33 (fCons (fC (.int 1)) (fCons (fVar 11) fNil))) (fLst (fCons (fC (.str "NoFolk")) fNil)))) (fRet (fC (.bool false))) fnext) (fseq (fSet 12 (fOp (lift2 addO) (fSlice (fVar 9) (fPart (fC (.int 1))) fNoPart) (fLst (fCons (fOp (lift2 addO) (fOp (lift2 ixO) (fVar 3) (fUn (lift1 negO) (fC (.int 1)))) (fC (.int 1))) fNil)))) (fIfS (fOr (fB (fOp (lift2 neO) (fUser F_law_told_v33 (fCons (fC (.int 1)) (fCons (fOp (lift2 mulO) (fLst (fCons (fVar 9) fNil)) (fC (.int 21))) fNil))) (fLst (fCons (fC (.str "NoFolk")) fNil)))) (fB (fOp (lift2 neO) (fUser F_law_told_v33 (fCons (fC (.int 1)) (fCons (fOp (lift2 addO) (fSlice (fVar 4) fNoPart (fPart (fC (.int 19)))) (fLst (fCons (fVar 12) fNil))) fNil))) (fLst (fCons (fC (.str "NoFolk")) fNil))))) (fRet (fC (.bool false))) fnext)))))))))))))
abbrev o_law_k80_3 : DSt → Flow := fUB 7 [5, 4] (fUserN F_read_folk_v5 (fCons (fVar 6) fNil)) u_law_k80_3
def b_law_k80_4 : DSt → Flow := fseq (fSet 3 (fUser F_law_great_v2 (fCons (fVar 2) (fCons (fUser F_law_names_v6 (fCons (fVar 2) (fCons (fOp (lift2 addO) (fC (.int 1)) (fUser F_law_draw_v3 (fCons (fVar 2) (fCons (fC (.int 10)) fNil)))) fNil))) fNil)))) (fseq (fSet 4 (fUser F_law_folk_v14 (fCons (fVar 2) (fCons (fVar 3) (fCons (fUser F_law_tree_v2 (fCons (fVar 2) (fCons (fVar 3) fNil))) fNil))))) (fseq (fSet 5 (fUser (F_law_copied 6) (fCons (fVar 4) fNil))) (fseq (fSet 6 (fJoin (fC (.str "")) (fLc (fLstI (fVar 4)) (bName 13) fYes (e_law_k80_1) [13]))) (fseq (fIfS (fOr (fB (fOp (lift2 neO) (fUser F_folk_text (fCons (fVar 5) fNil)) (fVar 6))) (fB (fOp (lift2 neO) (fVar 5) (fVar 4)))) (fRet (fC (.bool false))) fnext) (fseq (fIfS (fB (fOp (lift2 neO) (fLc (fLstI (fVar 5)) (bName 8) fYes (e_law_k80_2) [8]) (fSlice (fSplit (fVar 6) (fC (.str "\n"))) fNoPart (fPart (fUn (lift1 negO) (fC (.int 1))))))) (fRet (fC (.bool false))) fnext) (fUB 7 [5, 4] (fUserN F_read_folk_v5 (fCons (fVar 6) fNil)) u_law_k80_3))))))
def p_law_k80 : DSt → Flow := fseq (fForW (fLstI (fOp (lift2 addO) (fLst (fCons (fC (.int 37)) fNil)) (fScCut 5 (fVar 0)))) (bName 1) 2 (fUser F_law_left (fCons (fVar 1) fNil)) b_law_k80_4) (fRet (fC (.bool true)))
def F_law_k80 : List R → Pw → FRes := runF 14 1 p_law_k80
def g80_0 : DSt → Flow := fSet 3 (fUser F_law_great_v2 (fCons (fVar 2) (fCons (fUser F_law_names_v6 (fCons (fVar 2) (fCons (fOp (lift2 addO) (fC (.int 1)) (fUser F_law_draw_v3 (fCons (fVar 2) (fCons (fC (.int 10)) fNil)))) fNil))) fNil)))
def g80_1 : DSt → Flow := fSet 4 (fUser F_law_folk_v14 (fCons (fVar 2) (fCons (fVar 3) (fCons (fUser F_law_tree_v2 (fCons (fVar 2) (fCons (fVar 3) fNil))) fNil))))
def g80_2 : DSt → Flow := fSet 5 (fUser (F_law_copied 6) (fCons (fVar 4) fNil))
def g80_3 : DSt → Flow := fSet 6 (fJoin (fC (.str "")) (fLc (fLstI (fVar 4)) (bName 13) fYes (e_law_k80_1) [13]))
def g80_4 : DSt → Flow := fIfS (fOr (fB (fOp (lift2 neO) (fUser F_folk_text (fCons (fVar 5) fNil)) (fVar 6))) (fB (fOp (lift2 neO) (fVar 5) (fVar 4)))) (fRet (fC (.bool false))) fnext
def g80_5 : DSt → Flow := fIfS (fB (fOp (lift2 neO) (fLc (fLstI (fVar 5)) (bName 8) fYes (e_law_k80_2) [8]) (fSlice (fSplit (fVar 6) (fC (.str "\n"))) fNoPart (fPart (fUn (lift1 negO) (fC (.int 1))))))) (fRet (fC (.bool false))) fnext
def g80_6 : DSt → Flow := fUB 7 [5, 4] (fUserN F_read_folk_v5 (fCons (fVar 6) fNil)) u_law_k80_3
theorem g80_eq : b_law_k80_4 = fseq g80_0 (fseq g80_1 (fseq g80_2 (fseq g80_3 (fseq g80_4 (fseq g80_5 (g80_6)))))) := rfl
theorem law_k80_ok : LawOkS 14 p_law_k80 := by
  intro ns hl
  have good : goodW (bName 1) 2 (fUser F_law_left (fCons (fVar 1) fNil)) b_law_k80_4 ((37 :: ns.take 5).map .int) ⟨[.ob (.scr ns), .no, .no, .no, .no, .no, .no, .no, .no, .no, .no, .no, .no, .no], none⟩ := by
    refine ⟨rfl, by simp [clearZ], fun d hd => ?_⟩
    obtain ⟨c, hc, rfl⟩ := List.mem_map.mp hd
    obtain ⟨n, g, el, n0, n1⟩ := left_ok (c := c) (w := none)
    refine ⟨⟨[.ob (.scr ns), .val (.int (c)), .no, .no, .no, .no, .no, .no, .no, .no, .no, .no, .no, .no], none⟩, ⟨[.ob (.scr ns), .val (.int (c)), .no, .no, .no, .no, .no, .no, .no, .no, .no, .no, .no, .no], none⟩, [n, g, 0], rfl, by simp -implicitDefEqProofs [el], rfl, by simp, fun pa => ?_⟩
    have lp : LP pa (some (pa, pa, [n, g, 0], 0)) 0 := ⟨n, g, 0, rfl, n0, n1, by omega, by omega⟩
    obtain ⟨m, w1, e1, m1, q1⟩ := draw_lit (b := 10) lp (by omega) (by omega) (by omega)
    obtain ⟨N, w2, e2, lN, sN, pN, q2⟩ := names6_ok (n := 1 + m) q1 (by omega) (by omega)
    have em : ((1 + m : Nat) : Int) = (1 : Int) + (m : Int) := by omega
    rw [em] at e2
    obtain ⟨M, w3, e3, lM, sM, pM, q3⟩ := great_ok q2 (by omega) (by omega) (by omega) sN (fun x hx => ⟨(pN x hx).1, by have := (pN x hx).2; omega⟩)
    have hM : Rank M := ⟨sM.imp fun h => by omega, fun x hx => (pM x hx).1, by omega, by omega⟩
    have l10 := hM.2.2.2
    have l0 := hM.2.2.1
    obtain ⟨T, w4, e4, hT, q4⟩ := tree_ok q3 (by omega) hM.2.2.1 (by omega)
    obtain ⟨f, w5, e5, f0, f20, pf, q5⟩ := folk14_ok q4 (by omega) hM.1 hM.2.2.1 (by omega) hT
    have H : FolkN M f := ⟨f0, f20, pf, hM, sM⟩
    have hF : Folk f := H.folk
    have ok : ∀ r ∈ f, okW r := fun r hr x hx => by have := pM x ((pf r hr).mem_iff.mp hx); omega
    have e6 := copC_ok (m := 6) (w := w5) H.b (by omega)
    have eft := folk_text_ok (w := w5) ok hF
    have erf := read_folk_ok (w := w5) ok hF
    have nf := neO_self H.b (by omega)
    -- the last and the first ranking
    obtain ⟨f', z, hz⟩ : ∃ f' z, f = f' ++ [z] := ⟨_, _, (List.dropLast_concat_getLast (List.length_pos_iff.mp f0)).symm⟩
    have mz : z ∈ f := by rw [hz]; simp
    have lz : atI (f.map llD) (-1) = some (.list (z.map .int)) := by rw [hz, List.map_append]; exact atI_last _ _
    have rz := in_folk hF mz
    have ez := law_word_ok (w := w5) (ok z mz) rz.2.2.2
    have erz := read_ranking_ok (w := w5) (ok z mz) rz
    have nz : neO (.list (z.map .int)) (.list (z.map .int)) = some (.val (.bool false)) := by simp
    obtain ⟨r, hr⟩ : ∃ r, f.headD [] = r := ⟨_, rfl⟩
    have mr : r ∈ f := hr ▸ head_mem f0
    have rr := in_folk hF mr
    have er : (f.map llD)[0]? = some (.list (r.map .int)) := by rw [← hr]; exact folk_at0 f0
    -- the text
    have sp := split_folk ok
    have sl : leS ((folkT f).length + 2) := size_le (by have := folk_len (fun r hr => ⟨ok r hr, (in_folk hF hr).2.2.2⟩) f20; omega)
    have sg : ((Str.ofString "\n").length == 0) = false := by decide
    have spl : (Txt.split (folkT f) (Str.ofString "\n")).map PyData.str = (f.map oneT).map .str ++ [.str (Str.ofString "")] := by rw [sp, List.map_append]; rfl
    obtain ⟨WD, hWD⟩ : ∃ WD, (f.map oneT).map PyData.str = WD := ⟨_, rfl⟩
    have cutW : cutD (WD ++ [.str (Str.ofString "")]) none (some (-1)) = WD := cut_init3
    rw [hWD] at spl
    have nW : neO (.list WD) (.list WD) = some (.val (.bool false)) := neO_self (n := 1) (by
      rw [← hWD, bdd_list]
      refine ⟨by simp; omega, fun d hd => ?_⟩
      obtain ⟨x, _, rfl⟩ := List.mem_map.mp hd
      simp) (by omega)
    -- the odd things
    obtain ⟨OD8, hOD⟩ : ∃ OD8, [PyData.none, .tuple [], .list [], .tuple (r.map .int), .list (r.map .int ++ (r.take 1).map .int), .list (.int (-1) :: r.map .int), .list [.bool true], .list [.str (Str.ofString "1")], .list (rangeD 0 11), .str (Str.ofString "1>2"), .int 7] = OD8 := ⟨_, rfl⟩
    have lO : OD8.length = 11 := by rw [← hOD]; rfl
    obtain ⟨k, w6, e7, k1, q6⟩ := draw_lit (b := 11) q5 (by omega) (by omega) (by omega)
    obtain ⟨o, eo, mo⟩ := atI_some (xs := OD8) (i := (k : Int)) (by omega) (by rw [lO]; omega)
    have eo' : OD8[k]? = some o := by rw [← eo, atI_nat]
    have oD := odds8 rr (by rw [hOD]; exact mo)
    have t1 := told_rank (w := w6) oD.b (by omega) oD.r
    have t2 := told_folk (d := .list [o]) (n := 3) (w := w6) (bdd_list.mpr ⟨by simp, fun d hd => by rw [List.mem_singleton.mp hd]; exact oD.b⟩) (by omega) oD.o
    have t3 := told_folk (w := w6) oD.b (by omega) oD.f
    have br : ∀ q ∈ f, bdd 2 (llD q) := fun q hq => bdd_list.mpr ⟨by rw [List.length_map]; have := (in_folk hF hq).2.2.2; omega, fun d hd => by obtain ⟨z, _, rfl⟩ := List.mem_map.mp hd; simp⟩
    have t4 := told_folk (d := .list (List.replicate 21 (.list (r.map .int)))) (n := 3) (w := w6) (bdd_list.mpr ⟨by simp, fun d hd => by rw [(List.mem_replicate.mp hd).2]; exact br r mr⟩) (by omega) (folkB_size (.inr (by simp)))
    obtain ⟨M', y, hy⟩ : ∃ M' y, M = M' ++ [y] := ⟨_, _, (List.dropLast_concat_getLast (List.length_pos_iff.mp l0)).symm⟩
    have ly : atI (M.map PyData.int) (-1) = some (.int y) := by rw [hy, List.map_append]; exact atI_last _ _
    have ymax : ∀ x ∈ M, x ≤ y := fun x hx => by
      rw [hy] at hx sM
      rcases List.mem_append.mp hx with q | q
      · have := (List.pairwise_append.mp sM).2.2 x q y (by simp); omega
      · simp at q; omega
    obtain ⟨S, hS⟩ : ∃ S, r.drop 1 ++ [y + 1] = S := ⟨_, rfl⟩
    have t5 := told_folk (d := .list ((f.take 19 ++ [S]).map llD)) (n := 3) (w := w6) (bdd_list.mpr ⟨by simp; omega, fun d hd => by
      obtain ⟨q, hq, rfl⟩ := List.mem_map.mp hd
      rcases List.mem_append.mp hq with hq | hq
      · exact br q (List.mem_of_mem_take hq)
      · rw [List.mem_singleton.mp hq, ← hS]
        exact bdd_list.mpr ⟨by have := rr.2.2.2; simp; omega, fun d hd => by obtain ⟨z, _, rfl⟩ := List.mem_map.mp hd; simp⟩⟩) (by omega) (folkB_two (a := r) (b := S) (List.mem_append_left _ (by
        cases f with
        | nil => simp at f0
        | cons a f => rw [← hr]; simp)) (by simp) fun p => by
          have : y + 1 ∈ M := (pf r mr).mem_iff.mp (p.mem_iff.mp (by rw [← hS]; simp))
          have := ymax _ this
          omega)
    have c1 : ∀ (v3 v5 : Sl), l_law_k80_1 ⟨[.ob (.scr ns), .val (.int (c)), .raw (.ref pa), v3, .val (.list ((f).map llD)), v5, .no, .no, .no, .no, .no, .no, .no, .no], w5⟩ = .ok (.new ((f.map rowT).map .str)) ⟨[.ob (.scr ns), .val (.int (c)), .raw (.ref pa), v3, .val (.list ((f).map llD)), v5, .no, .no, .no, .no, .no, .no, .no, .no], w5⟩ := fun v3 v5 => by
      rw [List.map_map]
      refine lc_all (fun q : List Int => ⟨[.ob (.scr ns), .val (.int (c)), .raw (.ref pa), v3, .val (.list ((f).map llD)), v5, .no, .no, .no, .no, .no, .no, .no, .val (llD q)], w5⟩) _ (f := llD) (l := f) (by simp -implicitDefEqProofs) (by omega) rfl (fun a _ => by rfl) (fun a _ => by rfl) (fun q hq => ?_)
      have e := law_word_ok (w := w5) (ok q hq) (in_folk hF hq).2.2.2
      have l1 : leS ((oneT q).length + (Str.ofString "\n").length) := size_le (by have := one_len (ok q hq) (in_folk hF hq).2.2.2; have : (Str.ofString "\n").length = 1 := by decide
                                                                                  omega)
      have ea : addO (.str (oneT q)) (.str (Str.ofString "\n")) = some (.val (.str (rowT q))) := if_pos l1
      unfold e_law_k80_1 llD
      simp -implicitDefEqProofs [e, ea]
    have hj : leJ (Str.ofString "") (f.map rowT) := leJ_of (n := 20) (k := 311) (by decide) (by rw [List.length_map]; exact f20) (fun y hy => by
      obtain ⟨q, hq, rfl⟩ := List.mem_map.mp hy
      have := one_len (ok q hq) (in_folk hF hq).2.2.2
      rw [wI_len] at this ⊢
      rw [tl_row, List.length_append]
      simp
      omega) (by omega)
    have hj' : Txt.join (Str.ofString "") (f.map rowT) = folkT f := rfl
    have c2 : ∀ (v3 : Sl), l_law_k80_2 ⟨[.ob (.scr ns), .val (.int (c)), .raw (.ref pa), v3, .val (.list ((f).map llD)), .val (.list ((f).map llD)), .val (.str (folkT f)), .no, .no, .no, .no, .no, .no, .no], w5⟩ = .ok (.new WD) ⟨[.ob (.scr ns), .val (.int (c)), .raw (.ref pa), v3, .val (.list ((f).map llD)), .val (.list ((f).map llD)), .val (.str (folkT f)), .no, .no, .no, .no, .no, .no, .no], w5⟩ := fun v3 => by
      rw [← hWD, List.map_map]
      refine lc_all (fun q : List Int => ⟨[.ob (.scr ns), .val (.int (c)), .raw (.ref pa), v3, .val (.list ((f).map llD)), .val (.list ((f).map llD)), .val (.str (folkT f)), .no, .val (llD q), .no, .no, .no, .no, .no], w5⟩) _ (f := llD) (l := f) (by simp -implicitDefEqProofs) (by omega) rfl (fun a _ => by rfl) (fun a _ => by rfl) (fun q hq => ?_)
      have e := ranking_text_ok (w := w5) (ok q hq) (in_folk hF hq)
      unfold e_law_k80_2 llD
      simp -implicitDefEqProofs [e]
    have un : unlR [.val (.str (folkT f))] (.new (f.map llD)) := fun e _ => by simp [subRs, subL]
    have dl : dle 5 (.list (f.map llD)) := bdd_dle (bdd_up (by omega) (bdd_list.mpr ⟨by rw [List.length_map]; omega, fun d hd => by obtain ⟨q, hq, rfl⟩ := List.mem_map.mp hd; exact br q hq⟩ : bdd 3 (.list (f.map llD))))
    have cS : cutD (r.map PyData.int) (some 1) none = (r.drop 1).map .int := by rw [cutD_map]; exact congrArg _ (cut_from (k := 1))
    have cT : cutD (r.map PyData.int) none (some 1) = (r.take 1).map .int := by rw [cutD_map]; exact congrArg _ (cut_to (k := 1))
    have cF : cutD (f.map llD) none (some 19) = (f.take 19).map llD := by rw [cutD_map]; exact congrArg _ (cut_to (k := 19))
    have lrr := rr.2.2.2
    have lS : leS ((r.drop 1).length + 1) := size_le (by rw [List.length_drop]; omega)
    have lT19 : leS ((f.take 19).length + 1) := size_le (by rw [List.length_take]; omega)
    have lr1 : leS (r.length + (r.take 1).length) := size_le (by rw [List.length_take]; omega)
    have lr2 : leS (1 + r.length) := size_le (by omega)
    have lr3 : leS (r.length + 1) := size_le (by omega)
    have hSd : (r.drop 1).map PyData.int ++ [.int (y + 1)] = S.map .int := by rw [← hS, List.map_append]; rfl
    have hFd : (f.take 19).map llD ++ [PyData.list (S.map .int)] = (f.take 19 ++ [S]).map llD := by rw [List.map_append]; rfl
    have m21 : mulO (.list [.list (r.map .int)]) (.int 21) = some (.new (List.replicate 21 (.list (r.map .int)))) := by
      rw [x_mulL, if_pos ⟨⟨by omega, by omega⟩, size_le (by simp)⟩]
      rfl
    obtain ⟨D, hD⟩ : ∃ D, f.map llD = D := ⟨_, rfl⟩
    obtain ⟨R21, hR21⟩ : ∃ R21, List.replicate 21 (PyData.list (r.map .int)) = R21 := ⟨_, rfl⟩
    rw [hR21] at m21 t4
    obtain ⟨RT, hRT⟩ : ∃ RT, (r.take 1).map PyData.int = RT := ⟨_, rfl⟩
    have lRT : leS (r.length + RT.length) := by rw [← hRT, List.length_map]; exact lr1
    rw [hRT] at cT hOD
    obtain ⟨RD1, hRD1⟩ : ∃ RD1, (r.drop 1).map PyData.int = RD1 := ⟨_, rfl⟩
    have lRD : leS (RD1.length + 1) := by rw [← hRD1, List.length_map]; exact lS
    rw [hRD1] at cS hSd
    obtain ⟨FT, hFT⟩ : ∃ FT, (f.take 19).map llD = FT := ⟨_, rfl⟩
    have lFT : leS (FT.length + 1) := by rw [← hFT, List.length_map]; exact lT19
    rw [hFT] at cF hFd
    obtain ⟨FS, hFS⟩ : ∃ FS, (f.take 19 ++ [S]).map llD = FS := ⟨_, rfl⟩
    rw [hFS] at t5 hFd
    obtain ⟨TD, hTD⟩ : ∃ TD, T.map prT = TD := ⟨_, rfl⟩
    obtain ⟨RW, hRW⟩ : ∃ RW, f.map rowT = RW := ⟨_, rfl⟩
    obtain ⟨X, hX⟩ : ∃ X, folkT f = X := ⟨_, rfl⟩
    rw [hD] at e5 e6 eft erf nf lz er c1 c2 un dl cF
    rw [hTD] at e4 e5
    rw [hRW] at c1 hj hj'
    rw [hX] at hj' eft erf sl spl c2 un
    have t0 : ∃ v3, (v3 = .own (M.map .int) ∨ v3 = .val (.list ((M).map .int))) ∧ g80_0 ⟨[.ob (.scr ns), .val (.int (c)), .raw (.ref pa), .no, .no, .no, .no, .no, .no, .no, .no, .no, .no, .no], some (pa, pa, [n, g, 0], 0)⟩ = .next ⟨[.ob (.scr ns), .val (.int (c)), .raw (.ref pa), v3, .no, .no, .no, .no, .no, .no, .no, .no, .no, .no], w3⟩ := by
      rcases e3 with e3 | e3
      · exact ⟨_, .inr rfl, by unfold g80_0; simp -implicitDefEqProofs [e1, e2, e3]⟩
      · exact ⟨_, .inl rfl, by unfold g80_0; simp -implicitDefEqProofs [e1, e2, e3]⟩
    obtain ⟨v3, hv3, t0⟩ := t0
    have t1' : g80_1 ⟨[.ob (.scr ns), .val (.int (c)), .raw (.ref pa), v3, .no, .no, .no, .no, .no, .no, .no, .no, .no, .no], w3⟩ = .next ⟨[.ob (.scr ns), .val (.int (c)), .raw (.ref pa), .val (.list ((M).map .int)), .own D, .no, .no, .no, .no, .no, .no, .no, .no, .no], w5⟩ := by
      rcases hv3 with rfl | rfl <;> unfold g80_1 <;> simp -implicitDefEqProofs [e4, e5]
    have t2' : g80_2 ⟨[.ob (.scr ns), .val (.int (c)), .raw (.ref pa), .val (.list ((M).map .int)), .own D, .no, .no, .no, .no, .no, .no, .no, .no, .no], w5⟩ = .next ⟨[.ob (.scr ns), .val (.int (c)), .raw (.ref pa), .val (.list ((M).map .int)), .val (.list D), .own D, .no, .no, .no, .no, .no, .no, .no, .no], w5⟩ := by
      unfold g80_2; simp -implicitDefEqProofs [e6, cpC]
    have c1' := c1 (.val (.list ((M).map .int))) (.own D)
    unfold l_law_k80_1 at c1'
    have t3' : g80_3 ⟨[.ob (.scr ns), .val (.int (c)), .raw (.ref pa), .val (.list ((M).map .int)), .val (.list D), .own D, .no, .no, .no, .no, .no, .no, .no, .no], w5⟩ = .next ⟨[.ob (.scr ns), .val (.int (c)), .raw (.ref pa), .val (.list ((M).map .int)), .val (.list D), .own D, .val (.str X), .no, .no, .no, .no, .no, .no, .no], w5⟩ := by
      unfold g80_3; simp -implicitDefEqProofs [c1', hj, hj']
    have t4' : g80_4 ⟨[.ob (.scr ns), .val (.int (c)), .raw (.ref pa), .val (.list ((M).map .int)), .val (.list D), .own D, .val (.str X), .no, .no, .no, .no, .no, .no, .no], w5⟩ = .next ⟨[.ob (.scr ns), .val (.int (c)), .raw (.ref pa), .val (.list ((M).map .int)), .val (.list D), .val (.list D), .val (.str X), .no, .no, .no, .no, .no, .no, .no], w5⟩ := by
      unfold g80_4; simp -implicitDefEqProofs [eft, nf]
    have c2' := c2 (.val (.list ((M).map .int)))
    unfold l_law_k80_2 at c2'
    have t5' : g80_5 ⟨[.ob (.scr ns), .val (.int (c)), .raw (.ref pa), .val (.list ((M).map .int)), .val (.list D), .val (.list D), .val (.str X), .no, .no, .no, .no, .no, .no, .no], w5⟩ = .next ⟨[.ob (.scr ns), .val (.int (c)), .raw (.ref pa), .val (.list ((M).map .int)), .val (.list D), .val (.list D), .val (.str X), .no, .no, .no, .no, .no, .no, .no], w5⟩ := by
      unfold g80_5; simp -implicitDefEqProofs [c2', sl, sg, spl, cutW, nW]
    have t6' : Nx (g80_6 ⟨[.ob (.scr ns), .val (.int (c)), .raw (.ref pa), .val (.list ((M).map .int)), .val (.list D), .val (.list D), .val (.str X), .no, .no, .no, .no, .no, .no, .no], w5⟩) (fun s6 => keepZ [.ob (.scr ns), .no, .no, .no, .no, .no, .no, .no, .no, .no, .no, .no, .no, .no] s6.d) := by
      have k1 : leS 1 := size_le (by omega)
      have k6 : leS 6 := size_le (by omega)
      have k5 : leS 5 := size_le (by omega)
      have k11 : leS 11 := size_le (by omega)
      have k0 : leS 0 := size_le (by omega)
      have nR : neO (.list [.str (Str.ofString "NoRanking")]) (.list [.str (Str.ofString "NoRanking")]) = some (.val (.bool false)) := neO_self (n := 1) (by simp) (by omega)
      have nF : neO (.list [.str (Str.ofString "NoFolk")]) (.list [.str (Str.ofString "NoFolk")]) = some (.val (.bool false)) := neO_self (n := 1) (by simp) (by omega)
      unfold g80_6 u_law_k80_3
      simp -implicitDefEqProofs [erf, un, ifP_pos, nf, dl, lz, ez, erz, nz, er, lRT, lr2, lr3, cT, k0, k1, k5, k6, k11, hOD, e7, eo, eo', lO, t1, t2, t3, nR, nF, cS, lRD, ly, hSd, -x_mulL, m21, t4, cF, lFT, hFd, t5, keepZ]
    show Nx (b_law_k80_4 ⟨[.ob (.scr ns), .val (.int (c)), .raw (.ref pa), .no, .no, .no, .no, .no, .no, .no, .no, .no, .no, .no], some (pa, pa, [n, g, 0], 0)⟩) (fun s6 => keepZ [.ob (.scr ns), .no, .no, .no, .no, .no, .no, .no, .no, .no, .no, .no, .no, .no] s6.d)
    rw [g80_eq]
    simp only [x_seq, t0, t1', t2', t3', t4', t5', at_next]
    exact t6'
  have s1 : leS 1 := size_le (by omega)
  have s7 : leS (1 + (ns.take 5).length) := size_le (by rw [List.length_take]; omega)
  have e := y_kForW good
  obtain ⟨Z, hZ⟩ : ∃ Z, Z = ns.take 5 := ⟨_, rfl⟩
  rw [← hZ] at e s7
  rw [List.map_cons] at e
  unfold p_law_k80
  simp -implicitDefEqProofs [s1, s7, ← hZ, e]

end DL

noncomputable section
namespace DL
open PySem L2 PyProof.Rows
open Evl (Ex)
namespace K80
def top (i : Nat) : Stmt := PySem.Challenge.pw_ontheline_k80_rankings_and_folk_written.main.body.getD i (.Pass ⟨0, 0, 0, 0⟩)
structure Txt (K : PySem.W.Frag) (mg : Str → Option Value) : Prop where
  b_isinstance : mg "isinstance" = none
  b_int : mg "int" = none
  b_bool : mg "bool" = none
  b_len : mg "len" = none
  b_list : mg "list" = none
  b_all : mg "all" = none
  b_set : mg "set" = none
  b_sorted : mg "sorted" = none
  b_str : mg "str" = none
  b_enumerate : mg "enumerate" = none
  b_range : mg "range" = none
  b_min : mg "min" = none
  b_max : mg "max" = none
  b_ValueError : mg "ValueError" = none
  b_zip : mg "zip" = none
  b_tuple : mg "tuple" = none
  exc : ExFs K mg ["NoFolk", "NoRanking"]
  exy_NoBack : ExY K mg ["NoFolk", "NoRanking"] "NoBack"
  exy_NoFall : ExY K mg ["NoFolk", "NoRanking"] "NoFall"
  exy_NoFit : ExY K mg ["NoFolk", "NoRanking"] "NoFit"
  exy_NoFixed : ExY K mg ["NoFolk", "NoRanking"] "NoFixed"
  exy_NoHand : ExY K mg ["NoFolk", "NoRanking"] "NoHand"
  exy_NoLine : ExY K mg ["NoFolk", "NoRanking"] "NoLine"
  exy_NoNames : ExY K mg ["NoFolk", "NoRanking"] "NoNames"
  exy_NoNumber : ExY K mg ["NoFolk", "NoRanking"] "NoNumber"
  exy_NoPaper : ExY K mg ["NoFolk", "NoRanking"] "NoPaper"
  exy_NoRow : ExY K mg ["NoFolk", "NoRanking"] "NoRow"
  exy_NoRule : ExY K mg ["NoFolk", "NoRanking"] "NoRule"
  exy_NoText : ExY K mg ["NoFolk", "NoRanking"] "NoText"
  exy_NoTitle : ExY K mg ["NoFolk", "NoRanking"] "NoTitle"
  exy_NoTops : ExY K mg ["NoFolk", "NoRanking"] "NoTops"
  exy_NoTree : ExY K mg ["NoFolk", "NoRanking"] "NoTree"
  exy_NoWeights : ExY K mg ["NoFolk", "NoRanking"] "NoWeights"
  exy_TooGreat : ExY K mg ["NoFolk", "NoRanking"] "TooGreat"
  c_MOST_NAMES : ∃ t, mg "MOST_NAMES" = some (.int 10 t)
  c_MOST_HANDS : ∃ t, mg "MOST_HANDS" = some (.int 20 t)
  c_MOST_FIGURES : ∃ t, mg "MOST_FIGURES" = some (.int 30 t)
  c_FIGURES : ∃ t, mg "FIGURES" = some (.str "0123456789" t)
  d_is_number : Wr K mg "is_number" (top 24) ["thing"]
  d_are_unlike_names : Wr K mg "are_unlike_names" (top 25) ["thing"]
  d_is_ranking : Wr K mg "is_ranking" (top 26) ["thing"]
  d_is_folk : Wr K mg "is_folk" (top 27) ["thing"]
  d_must_be_ranking : Wr K mg "must_be_ranking" (top 28) ["ranking"]
  d_must_be_folk : Wr K mg "must_be_folk" (top 29) ["folk"]
  d_number_of : Wr K mg "number_of" (top 33) ["word"]
  d_ranking_of : Wr K mg "ranking_of" (top 34) ["word"]
  d_in_one : Wr K mg "in_one" (top 35) ["ranking"]
  d_ranking_text : Wr K mg "ranking_text" (top 36) ["ranking"]
  d_read_ranking : Wr K mg "read_ranking" (top 37) ["word"]
  d_folk_text : Wr K mg "folk_text" (top 38) ["folk"]
  d_read_folk : Wr K mg "read_folk" (top 39) ["text"]
  d__law_mix : Wr K mg "_law_mix" (top 41) ["_law_number", "_law_k"]
  d__law_left : Wr K mg "_law_left" (top 42) ["_law_cell"]
  d__law_draw : Wr K mg "_law_draw" (top 43) ["_law_left_here", "_law_base"]
  d__law_names : Wr K mg "_law_names" (top 44) ["_law_left_here", "_law_many"]
  d__law_shuffled : Wr K mg "_law_shuffled" (top 45) ["_law_left_here", "_law_things"]
  d__law_tree : Wr K mg "_law_tree" (top 46) ["_law_left_here", "_law_names_here"]
  d__law_falling : Wr K mg "_law_falling" (top 47) ["_law_left_here", "_law_names_here", "_law_tree_here"]
  d__law_folk : Wr K mg "_law_folk" (top 48) ["_law_left_here", "_law_names_here", "_law_tree_here"]
  d__law_marks : Wr K mg "_law_marks" (top 49) ["_law_caught"]
  d__law_copied : Wr K mg "_law_copied" (top 50) ["_law_thing"]
  d__law_emptied : Wr K mg "_law_emptied" (top 51) ["_law_thing"]
  d__law_told : Wr K mg "_law_told" (top 52) ["_law_way", "_law_thing"]
  d__law_word : Wr K mg "_law_word" (top 53) ["_law_ranking"]
  d__law_great : Wr K mg "_law_great" (top 54) ["_law_left_here", "_law_names_here"]
section
variable {P : Program} {w : World} {K : PySem.W.Frag} {mg : Str → Option Value} {base : Heap} {cl : String → Addr}
abbrev N_is_number : List Str := ["thing"]
theorem sc_is_number : FnScope N_is_number ["thing"] (defScope (top 24)) := ⟨rfl, rfl, rfl, by decide +kernel, rfl, by decide +kernel, by decide +kernel⟩
theorem w_is_number (T : Txt K mg) : Cal P w K mg base (clOf K) "is_number" 1 ["thing"] F_is_number := by
  have sc := sc_is_number
  refine cal_of T.d_is_number sc (by decide) fun f cdv A outer s H E hr => ?_
  have tk : Takes (cxOf (L2.CX P w) P w K mg base N_is_number "is_number" (defScope (top 24)) f cdv A outer s H E) (fun cls d _ H => E cls d H) := takes_of rfl rfl rfl rfl
  exact ss_one (s_ret (v_and (d_isi (m := "int") (by decide) rfl T.b_isinstance (d_var 0) (pe_bltn rfl T.b_int (by decide +kernel) rfl)) (v_one (v_not (d_isi (m := "bool") (by decide) rfl T.b_isinstance (d_var 0) (pe_bltn rfl T.b_bool (by decide +kernel) rfl))))))
abbrev N_are_unlike_names : List Str := ["thing", "name"]
theorem sc_are_unlike_names : FnScope N_are_unlike_names ["thing"] (defScope (top 25)) := ⟨rfl, rfl, rfl, by decide +kernel, rfl, by decide +kernel, by decide +kernel⟩
theorem w_are_unlike_names (T : Txt K mg)
    (c_is_number : Cal P w K mg base (clOf K) "is_number" 1 ["thing"] F_is_number) : Cal P w K mg base (clOf K) "are_unlike_names" 2 ["thing"] F_are_unlike_names := by
  have sc := sc_are_unlike_names
  refine cal_of T.d_are_unlike_names sc (by decide) fun f cdv A outer s H E hr => ?_
  have tk : Takes (cxOf (L2.CX P w) P w K mg base N_are_unlike_names "are_unlike_names" (defScope (top 25)) f cdv A outer s H E) (fun cls d _ H => E cls d H) := takes_of rfl rfl rfl rfl
  exact ss_cons (s_if (d_tw (w_or (d_tnot (d_tval (d_isi (m := "list") (by decide) rfl T.b_isinstance (d_var 0) (pe_bltn rfl T.b_list (by decide +kernel) rfl)))) (w_or1 (d_tnot (d_tval (d_callB (cr_all rfl) cd_all rfl T.b_all (by decide +kernel) (ap_cons (d_lc rfl sc.nd (own := [("name", 1)]) (i_list (d_var 0)) (blkOk_by (own := [("name", 1)]) (N := N_are_unlike_names) (sc := defScope (top 25)) (by decide +kernel)) (g_name 1) (by decide) (fun _ _ _ _ _ => pg_name (i := 1) sc.nd rfl (by first | exact Or.inl rfl | exact Or.inr rfl)) (fun _ _ _ _ _ => dts_nil) (fun _ _ _ _ _ => v_and (d_cal c_is_number (hr.mono (by decide)) passA0 (ae_cons (d_var 1) ae_nil)) (v_one (d_ge (d_var 1) d_int)))) ap_nil))))))) (ss_one (s_ret d_bl)) ss_nil) (ss_one (s_ret (d_eq hr.units (d_lenSet rfl rfl T.b_len rfl T.b_set (d_var 0)) (d_callB (CallR.or' call_len_seq call_len_str) cd_len rfl T.b_len (by decide +kernel) (ap_cons (d_var 0) ap_nil)))))
abbrev N_is_ranking : List Str := ["thing"]
theorem sc_is_ranking : FnScope N_is_ranking ["thing"] (defScope (top 26)) := ⟨rfl, rfl, rfl, by decide +kernel, rfl, by decide +kernel, by decide +kernel⟩
theorem w_is_ranking (T : Txt K mg)
    (c_are_unlike_names : Cal P w K mg base (clOf K) "are_unlike_names" 2 ["thing"] F_are_unlike_names) : Cal P w K mg base (clOf K) "is_ranking" 3 ["thing"] F_is_ranking := by
  obtain ⟨t_MOST_NAMES, k_MOST_NAMES⟩ := T.c_MOST_NAMES
  have sc := sc_is_ranking
  refine cal_of T.d_is_ranking sc (by decide) fun f cdv A outer s H E hr => ?_
  have tk : Takes (cxOf (L2.CX P w) P w K mg base N_is_ranking "is_ranking" (defScope (top 26)) f cdv A outer s H E) (fun cls d _ H => E cls d H) := takes_of rfl rfl rfl rfl
  exact ss_one (s_ret (v_and (d_cal c_are_unlike_names (hr.mono (by decide)) (passAt tk) (ae_cons (d_var 0) ae_nil)) (v_and (d_gt (d_callB (CallR.or' call_len_seq call_len_str) cd_len rfl T.b_len (by decide +kernel) (ap_cons (d_var 0) ap_nil)) d_int) (v_one (d_le (d_callB (CallR.or' call_len_seq call_len_str) cd_len rfl T.b_len (by decide +kernel) (ap_cons (d_var 0) ap_nil)) (d_globI rfl k_MOST_NAMES))))))
abbrev N_is_folk : List Str := ["thing", "ranking"]
theorem sc_is_folk : FnScope N_is_folk ["thing"] (defScope (top 27)) := ⟨rfl, rfl, rfl, by decide +kernel, rfl, by decide +kernel, by decide +kernel⟩
theorem w_is_folk (T : Txt K mg)
    (c_is_ranking : Cal P w K mg base (clOf K) "is_ranking" 3 ["thing"] F_is_ranking) : Cal P w K mg base (clOf K) "is_folk" 4 ["thing"] F_is_folk := by
  obtain ⟨t_MOST_HANDS, k_MOST_HANDS⟩ := T.c_MOST_HANDS
  have sc := sc_is_folk
  refine cal_of T.d_is_folk sc (by decide) fun f cdv A outer s H E hr => ?_
  have tk : Takes (cxOf (L2.CX P w) P w K mg base N_is_folk "is_folk" (defScope (top 27)) f cdv A outer s H E) (fun cls d _ H => E cls d H) := takes_of rfl rfl rfl rfl
  exact ss_cons (s_if (d_tw (w_or (d_tnot (d_tval (d_isi (m := "list") (by decide) rfl T.b_isinstance (d_var 0) (pe_bltn rfl T.b_list (by decide +kernel) rfl)))) (w_or (t_lt (d_callB (CallR.or' call_len_seq call_len_str) cd_len rfl T.b_len (by decide +kernel) (ap_cons (d_var 0) ap_nil)) d_int) (w_or1 (t_gt (d_callB (CallR.or' call_len_seq call_len_str) cd_len rfl T.b_len (by decide +kernel) (ap_cons (d_var 0) ap_nil)) (d_globI rfl k_MOST_HANDS)))))) (ss_one (s_ret d_bl)) ss_nil) (ss_cons (s_if (d_tnot (d_tval (d_callB (cr_all rfl) cd_all rfl T.b_all (by decide +kernel) (ap_cons (d_lc rfl sc.nd (own := [("ranking", 1)]) (i_list (d_var 0)) (blkOk_by (own := [("ranking", 1)]) (N := N_is_folk) (sc := defScope (top 27)) (by decide +kernel)) (g_name 1) (by decide) (fun _ _ _ _ _ => pg_name (i := 1) sc.nd rfl (by first | exact Or.inl rfl | exact Or.inr rfl)) (fun _ _ _ _ _ => dts_nil) (fun _ _ _ _ _ => d_cal c_is_ranking (hr.mono (by decide)) passA0 (ae_cons (d_var 1) ae_nil))) ap_nil)))) (ss_one (s_ret d_bl)) ss_nil) (ss_one (s_ret (d_callB (cr_all rfl) cd_all rfl T.b_all (by decide +kernel) (ap_cons (d_lc rfl sc.nd (own := [("ranking", 1)]) (i_list (d_var 0)) (blkOk_by (own := [("ranking", 1)]) (N := N_is_folk) (sc := defScope (top 27)) (by decide +kernel)) (g_name 1) (by decide) (fun _ _ _ _ _ => pg_name (i := 1) sc.nd rfl (by first | exact Or.inl rfl | exact Or.inr rfl)) (fun _ _ _ _ _ => dts_nil) (fun _ _ _ _ _ => d_eq hr.units (d_callB (CallR.or' cr_sortedI (cr_sortedD hr.units)) cd_sorted rfl T.b_sorted (by decide +kernel) (ap_cons (d_var 1) ap_nil)) (d_callB (CallR.or' cr_sortedI (cr_sortedD hr.units)) cd_sorted rfl T.b_sorted (by decide +kernel) (ap_cons (d_ix (d_var 0) d_int (fun _ _ => rfl)) ap_nil)))) ap_nil)))))
abbrev N_must_be_ranking : List Str := ["ranking"]
theorem sc_must_be_ranking : FnScope N_must_be_ranking ["ranking"] (defScope (top 28)) := ⟨rfl, rfl, rfl, by decide +kernel, rfl, by decide +kernel, by decide +kernel⟩
theorem w_must_be_ranking (T : Txt K mg)
    (c_is_ranking : Cal P w K mg base (clOf K) "is_ranking" 3 ["thing"] F_is_ranking) : Cal P w K mg base (clOf K) "must_be_ranking" 4 ["ranking"] F_must_be_ranking := by
  have sc := sc_must_be_ranking
  refine cal_of T.d_must_be_ranking sc (by decide) fun f cdv A outer s H E hr => ?_
  have tk : Takes (cxOf (L2.CX P w) P w K mg base N_must_be_ranking "must_be_ranking" (defScope (top 28)) f cdv A outer s H E) (fun cls d _ H => E cls d H) := takes_of rfl rfl rfl rfl
  exact ss_one (s_if (d_tnot (d_tval (d_cal c_is_ranking (hr.mono (by decide)) (passAt tk) (ae_cons (d_var 0) ae_nil)))) (ss_one (s_raise (n := "NoRanking") rfl tk rfl (T.exc.each "NoRanking" (by decide)).x (T.exc.each "NoRanking" (by decide)).g (T.exc.each "NoRanking" (by decide)).kp (T.exc.each "NoRanking" (by decide)).b (T.exc.each "NoRanking" (by decide)).ty rfl)) ss_nil)
abbrev N_must_be_folk : List Str := ["folk"]
theorem sc_must_be_folk : FnScope N_must_be_folk ["folk"] (defScope (top 29)) := ⟨rfl, rfl, rfl, by decide +kernel, rfl, by decide +kernel, by decide +kernel⟩
theorem w_must_be_folk (T : Txt K mg)
    (c_is_folk : Cal P w K mg base (clOf K) "is_folk" 4 ["thing"] F_is_folk) : Cal P w K mg base (clOf K) "must_be_folk" 5 ["folk"] F_must_be_folk := by
  have sc := sc_must_be_folk
  refine cal_of T.d_must_be_folk sc (by decide) fun f cdv A outer s H E hr => ?_
  have tk : Takes (cxOf (L2.CX P w) P w K mg base N_must_be_folk "must_be_folk" (defScope (top 29)) f cdv A outer s H E) (fun cls d _ H => E cls d H) := takes_of rfl rfl rfl rfl
  exact ss_one (s_if (d_tnot (d_tval (d_cal c_is_folk (hr.mono (by decide)) (passAt tk) (ae_cons (d_var 0) ae_nil)))) (ss_one (s_raise (n := "NoFolk") rfl tk rfl (T.exc.each "NoFolk" (by decide)).x (T.exc.each "NoFolk" (by decide)).g (T.exc.each "NoFolk" (by decide)).kp (T.exc.each "NoFolk" (by decide)).b (T.exc.each "NoFolk" (by decide)).ty rfl)) ss_nil)
abbrev N_number_of : List Str := ["word", "sign"]
theorem sc_number_of : FnScope N_number_of ["word"] (defScope (top 33)) := ⟨rfl, rfl, rfl, by decide +kernel, rfl, by decide +kernel, by decide +kernel⟩
theorem w_number_of (T : Txt K mg) : Cal P w K mg base (clOf K) "number_of" 1 ["word"] F_number_of_v2 := by
  obtain ⟨t_FIGURES, k_FIGURES⟩ := T.c_FIGURES
  obtain ⟨t_MOST_FIGURES, k_MOST_FIGURES⟩ := T.c_MOST_FIGURES
  have sc := sc_number_of
  refine cal_of T.d_number_of sc (by decide) fun f cdv A outer s H E hr => ?_
  have tk : Takes (cxOf (L2.CX P w) P w K mg base N_number_of "number_of" (defScope (top 33)) f cdv A outer s H E) (fun cls d _ H => E cls d H) := takes_of rfl rfl rfl rfl
  exact ss_cons (s_if (d_tw (w_or (t_eq hr.units (d_var 0) d_str) (w_or (t_gt (d_callB (CallR.or' call_len_seq call_len_str) cd_len rfl T.b_len (by decide +kernel) (ap_cons (d_var 0) ap_nil)) (d_globI rfl k_MOST_FIGURES)) (w_or1 (d_tnot (d_tval (d_callB (cr_all rfl) cd_all rfl T.b_all (by decide +kernel) (ap_cons (d_lc rfl sc.nd (own := [("sign", 1)]) (i_str (d_var 0)) (blkOk_by (own := [("sign", 1)]) (N := N_number_of) (sc := defScope (top 33)) (by decide +kernel)) (g_name 1) (by decide) (fun _ _ _ _ _ => pg_name (i := 1) sc.nd rfl (by first | exact Or.inl rfl | exact Or.inr rfl)) (fun _ _ _ _ _ => dts_nil) (fun _ _ _ _ _ => d_sgIn (by rfl) (d_var 1) (d_globS rfl k_FIGURES))) ap_nil)))))))) (ss_one (s_ret d_non)) ss_nil) (ss_cons (s_if (d_tw (w_and (t_eq hr.units (d_ix (d_var 0) d_int (fun _ _ => rfl)) d_str) (w_and1 (t_ne hr.units (d_var 0) d_str)))) (ss_one (s_ret d_non)) ss_nil) (ss_one (s_ret (d_callTy call_int_str cd_intT rfl T.b_int (by decide +kernel) (ap_cons (d_var 0) ap_nil)))))
abbrev N_ranking_of : List Str := ["word", "found", "part"]
theorem sc_ranking_of : FnScope N_ranking_of ["word"] (defScope (top 34)) := ⟨rfl, rfl, rfl, by decide +kernel, rfl, by decide +kernel, by decide +kernel⟩
theorem w_ranking_of (T : Txt K mg)
    (c_is_ranking : Cal P w K mg base (clOf K) "is_ranking" 3 ["thing"] F_is_ranking)
    (c_number_of : Cal P w K mg base (clOf K) "number_of" 1 ["word"] F_number_of_v2) : Cal P w K mg base (clOf K) "ranking_of" 4 ["word"] F_ranking_of_v3 := by
  have sc := sc_ranking_of
  refine cal_of T.d_ranking_of sc (by decide) fun f cdv A outer s H E hr => ?_
  have tk : Takes (cxOf (L2.CX P w) P w K mg base N_ranking_of "ranking_of" (defScope (top 34)) f cdv A outer s H E) (fun cls d _ H => E cls d H) := takes_of rfl rfl rfl rfl
  exact ss_cons (s_setLc (i := 1) rfl sc.nd rfl rfl (sw_true rfl rfl rfl (by decide +kernel)) (own := [("part", 2)]) (i_list (d_split (d_var 0) d_str)) (blkOk_by (own := [("part", 2)]) (N := N_ranking_of) (sc := defScope (top 34)) (by decide +kernel)) (g_name 2) (by decide) (fun _ _ _ _ _ => pg_name (i := 2) sc.nd rfl (by first | exact Or.inl rfl | exact Or.inr rfl)) (fun _ _ _ _ _ => dts_nil) (fun _ _ _ _ _ => d_cal c_number_of (hr.mono (by decide)) passA0 (ae_cons (d_var 2) ae_nil))) (ss_cons (s_if (d_tw (w_or (t_in hr.units (by rfl) d_non (d_var 1)) (w_or1 (d_tnot (d_tval (d_calP c_is_ranking (hr.mono (by decide)) (passAt tk) (ap_cons (d_var 1) ap_nil))))))) (ss_one (s_ret d_non)) ss_nil) (ss_one (s_ret (d_var 1))))
abbrev N_in_one : List Str := ["ranking", "name"]
theorem sc_in_one : FnScope N_in_one ["ranking"] (defScope (top 35)) := ⟨rfl, rfl, rfl, by decide +kernel, rfl, by decide +kernel, by decide +kernel⟩
theorem w_in_one (T : Txt K mg) : Cal P w K mg base (clOf K) "in_one" 1 ["ranking"] F_in_one := by
  have sc := sc_in_one
  refine cal_of T.d_in_one sc (by decide) fun f cdv A outer s H E hr => ?_
  have tk : Takes (cxOf (L2.CX P w) P w K mg base N_in_one "in_one" (defScope (top 35)) f cdv A outer s H E) (fun cls d _ H => E cls d H) := takes_of rfl rfl rfl rfl
  exact ss_one (s_ret (d_join d_str (d_lc rfl sc.nd (own := [("name", 1)]) (i_list (d_var 0)) (blkOk_by (own := [("name", 1)]) (N := N_in_one) (sc := defScope (top 35)) (by decide +kernel)) (g_name 1) (by decide) (fun _ _ _ _ _ => pg_name (i := 1) sc.nd rfl (by first | exact Or.inl rfl | exact Or.inr rfl)) (fun _ _ _ _ _ => dts_nil) (fun _ _ _ _ _ => d_strC hr rfl T.b_str (d_var 1)))))
abbrev N_ranking_text : List Str := ["ranking"]
theorem sc_ranking_text : FnScope N_ranking_text ["ranking"] (defScope (top 36)) := ⟨rfl, rfl, rfl, by decide +kernel, rfl, by decide +kernel, by decide +kernel⟩
theorem w_ranking_text (T : Txt K mg)
    (c_must_be_ranking : Cal P w K mg base (clOf K) "must_be_ranking" 4 ["ranking"] F_must_be_ranking)
    (c_in_one : Cal P w K mg base (clOf K) "in_one" 1 ["ranking"] F_in_one) : Cal P w K mg base (clOf K) "ranking_text" 5 ["ranking"] F_ranking_text := by
  have sc := sc_ranking_text
  refine cal_of T.d_ranking_text sc (by decide) fun f cdv A outer s H E hr => ?_
  have tk : Takes (cxOf (L2.CX P w) P w K mg base N_ranking_text "ranking_text" (defScope (top 36)) f cdv A outer s H E) (fun cls d _ H => E cls d H) := takes_of rfl rfl rfl rfl
  exact ss_cons (s_expr (d_cal c_must_be_ranking (hr.mono (by decide)) (passAt tk) (ae_cons (d_var 0) ae_nil))) (ss_one (s_ret (d_cal c_in_one (hr.mono (by decide)) (passAt tk) (ae_cons (d_var 0) ae_nil))))
abbrev N_read_ranking : List Str := ["word", "found"]
theorem sc_read_ranking : FnScope N_read_ranking ["word"] (defScope (top 37)) := ⟨rfl, rfl, rfl, by decide +kernel, rfl, by decide +kernel, by decide +kernel⟩
theorem w_read_ranking (T : Txt K mg)
    (c_ranking_of : Cal P w K mg base (clOf K) "ranking_of" 4 ["word"] F_ranking_of_v3) : Cal P w K mg base (clOf K) "read_ranking" 5 ["word"] F_read_ranking_v8 := by
  have sc := sc_read_ranking
  refine cal_of T.d_read_ranking sc (by decide) fun f cdv A outer s H E hr => ?_
  have tk : Takes (cxOf (L2.CX P w) P w K mg base N_read_ranking "read_ranking" (defScope (top 37)) f cdv A outer s H E) (fun cls d _ H => E cls d H) := takes_of rfl rfl rfl rfl
  exact ss_cons (s_set (i := 1) sc.nd rfl (by first | exact Or.inl rfl | exact Or.inr rfl) (d_cal c_ranking_of (hr.mono (by decide)) (passAt tk) (ae_cons (d_var 0) ae_nil))) (ss_cons (s_if (t_isN (d_var 1)) (ss_one s_never) ss_nil) (ss_one (s_ret (d_var 1))))
abbrev N_folk_text : List Str := ["folk", "ranking"]
theorem sc_folk_text : FnScope N_folk_text ["folk"] (defScope (top 38)) := ⟨rfl, rfl, rfl, by decide +kernel, rfl, by decide +kernel, by decide +kernel⟩
theorem w_folk_text (T : Txt K mg)
    (c_must_be_folk : Cal P w K mg base (clOf K) "must_be_folk" 5 ["folk"] F_must_be_folk)
    (c_in_one : Cal P w K mg base (clOf K) "in_one" 1 ["ranking"] F_in_one) : Cal P w K mg base (clOf K) "folk_text" 6 ["folk"] F_folk_text := by
  have sc := sc_folk_text
  refine cal_of T.d_folk_text sc (by decide) fun f cdv A outer s H E hr => ?_
  have tk : Takes (cxOf (L2.CX P w) P w K mg base N_folk_text "folk_text" (defScope (top 38)) f cdv A outer s H E) (fun cls d _ H => E cls d H) := takes_of rfl rfl rfl rfl
  exact ss_cons (s_expr (d_cal c_must_be_folk (hr.mono (by decide)) (passAt tk) (ae_cons (d_var 0) ae_nil))) (ss_one (s_ret (d_join d_str (d_lc rfl sc.nd (own := [("ranking", 1)]) (i_list (d_var 0)) (blkOk_by (own := [("ranking", 1)]) (N := N_folk_text) (sc := defScope (top 38)) (by decide +kernel)) (g_name 1) (by decide) (fun _ _ _ _ _ => pg_name (i := 1) sc.nd rfl (by first | exact Or.inl rfl | exact Or.inr rfl)) (fun _ _ _ _ _ => dts_nil) (fun _ _ _ _ _ => d_add (d_cal c_in_one (hr.mono (by decide)) passA0 (ae_cons (d_var 1) ae_nil)) d_str)))))
abbrev N_read_folk : List Str := ["text", "rows", "found", "row", "word", "ranking"]
theorem sc_read_folk : FnScope N_read_folk ["text"] (defScope (top 39)) := ⟨rfl, rfl, rfl, by decide +kernel, rfl, by decide +kernel, by decide +kernel⟩
theorem w_read_folk (T : Txt K mg)
    (c_ranking_of : Cal P w K mg base (clOf K) "ranking_of" 4 ["word"] F_ranking_of_v3) : Cal P w K mg base (clOf K) "read_folk" 5 ["text"] F_read_folk_v5 := by
  obtain ⟨t_MOST_HANDS, k_MOST_HANDS⟩ := T.c_MOST_HANDS
  have sc := sc_read_folk
  refine cal_of T.d_read_folk sc (by decide) fun f cdv A outer s H E hr => ?_
  have tk : Takes (cxOf (L2.CX P w) P w K mg base N_read_folk "read_folk" (defScope (top 39)) f cdv A outer s H E) (fun cls d _ H => E cls d H) := takes_of rfl rfl rfl rfl
  exact ss_cons (s_set (i := 1) sc.nd rfl (by first | exact Or.inl rfl | exact Or.inr rfl) (d_split (d_var 0) d_str)) (ss_cons (s_set (i := 2) sc.nd rfl (by first | exact Or.inl rfl | exact Or.inr rfl) (d_lst ae_nil)) (ss_cons (s_for (passes_of rfl) rfl (i_enum rfl T.b_enumerate (ae_cons (d_slice (d_var 1) dp_none (dp_some (d_neg d_int))) ae_nil)) (pg_tup rfl (pgs_cons (pg_name (i := 3) sc.nd rfl (by first | exact Or.inl rfl | exact Or.inr rfl)) (pgs_cons (pg_name (i := 4) sc.nd rfl (by first | exact Or.inl rfl | exact Or.inr rfl)) pgs_nil))) (g_tup (n := 2) (g_cons (g_name 3) (g_cons (g_name 4) g_nil))) (ss_cons (s_set (i := 5) sc.nd rfl (by first | exact Or.inl rfl | exact Or.inr rfl) (d_cal c_ranking_of (hr.mono (by decide)) (passAt tk) (ae_cons (d_var 4) ae_nil))) (ss_cons (s_if (d_tw (w_or (t_isN (d_var 5)) (w_or (t_ge (d_var 3) (d_globI rfl k_MOST_HANDS)) (w_or1 (d_tw (w_and (t_ne hr.units (d_var 2) (d_lst ae_nil)) (w_and1 (t_ne hr.units (d_callB (CallR.or' cr_sortedI (cr_sortedD hr.units)) cd_sorted rfl T.b_sorted (by decide +kernel) (ap_cons (d_var 5) ap_nil)) (d_callB (CallR.or' cr_sortedI (cr_sortedD hr.units)) cd_sorted rfl T.b_sorted (by decide +kernel) (ap_cons (d_ix (d_var 2) d_int (fun _ _ => rfl)) ap_nil)))))))))) (ss_one s_never) ss_nil) (ss_one (s_expr (d_append (pv 2) (d_var 5))))))) (ss_cons (s_if (d_tw (w_or (t_ne hr.units (d_ix (d_var 1) (d_neg d_int) (fun _ _ => rfl)) d_str) (w_or1 (t_eq hr.units (d_var 2) (d_lst ae_nil))))) (ss_one s_never) ss_nil) (ss_one (s_ret (d_var 2))))))
abbrev N__law_mix : List Str := ["_law_number", "_law_k", "_law_mixed"]
theorem sc__law_mix : FnScope N__law_mix ["_law_number", "_law_k"] (defScope (top 41)) := ⟨rfl, rfl, rfl, by decide +kernel, rfl, by decide +kernel, by decide +kernel⟩
theorem w__law_mix (T : Txt K mg) : Cal P w K mg base (clOf K) "_law_mix" 1 ["_law_number", "_law_k"] F_law_mix := by
  have sc := sc__law_mix
  refine cal_of T.d__law_mix sc (by decide) fun f cdv A outer s H E hr => ?_
  have tk : Takes (cxOf (L2.CX P w) P w K mg base N__law_mix "_law_mix" (defScope (top 41)) f cdv A outer s H E) (fun cls d _ H => E cls d H) := takes_of rfl rfl rfl rfl
  exact ss_cons (s_set (i := 2) sc.nd rfl (by first | exact Or.inl rfl | exact Or.inr rfl) (d_mod (d_mul (d_add (d_add (d_mul (d_var 0) (d_var 0)) (d_mul (d_var 1) (d_var 0))) (d_mul (d_mul d_int (d_var 1)) (d_var 1))) d_int) d_int)) (ss_one (s_ret (d_mod (d_mul (d_var 2) (d_var 2)) d_int)))
abbrev N__law_left : List Str := ["_law_cell"]
theorem sc__law_left : FnScope N__law_left ["_law_cell"] (defScope (top 42)) := ⟨rfl, rfl, rfl, by decide +kernel, rfl, by decide +kernel, by decide +kernel⟩
theorem w__law_left (T : Txt K mg) : Cal P w K mg base (clOf K) "_law_left" 1 ["_law_cell"] F_law_left := by
  have sc := sc__law_left
  refine cal_of T.d__law_left sc (by decide) fun f cdv A outer s H E hr => ?_
  have tk : Takes (cxOf (L2.CX P w) P w K mg base N__law_left "_law_left" (defScope (top 42)) f cdv A outer s H E) (fun cls d _ H => E cls d H) := takes_of rfl rfl rfl rfl
  exact ss_cons (s_if (t_lt (d_var 0) (d_pow d_int d_int)) (ss_one (s_ret (d_lst (ae_cons (d_mod (d_var 0) d_int) (ae_cons d_int (ae_cons d_int ae_nil)))))) ss_nil) (ss_one (s_ret (d_lst (ae_cons (d_mod (d_sub (d_var 0) (d_pow d_int d_int)) (d_pow (d_pow (d_pow d_int d_int) d_int) d_int)) (ae_cons d_int (ae_cons d_int ae_nil))))))
abbrev N__law_draw : List Str := ["_law_left_here", "_law_base", "_law_mixed", "_law_digit"]
theorem sc__law_draw : FnScope N__law_draw ["_law_left_here", "_law_base"] (defScope (top 43)) := ⟨rfl, rfl, rfl, by decide +kernel, rfl, by decide +kernel, by decide +kernel⟩
theorem w__law_draw (T : Txt K mg)
    (c__law_mix : Cal P w K mg base (clOf K) "_law_mix" 1 ["_law_number", "_law_k"] F_law_mix) : Cal P w K mg base (clOf K) "_law_draw" 2 ["_law_left_here", "_law_base"] F_law_draw_v3 := by
  have sc := sc__law_draw
  refine cal_of T.d__law_draw sc (by decide) fun f cdv A outer s H E hr => ?_
  have tk : Takes (cxOf (L2.CX P w) P w K mg base N__law_draw "_law_draw" (defScope (top 43)) f cdv A outer s H E) (fun cls d _ H => E cls d H) := takes_of rfl rfl rfl rfl
  exact ss_cons (s_setC (d_add (d_ixC (pv 0) d_int (fun _ _ => rfl)) d_int) (pv 0) d_int) (ss_cons (s_if (t_eq hr.units (d_ixC (pv 0) d_int (fun _ _ => rfl)) d_int) (ss_cons (s_set (i := 2) sc.nd rfl (by first | exact Or.inl rfl | exact Or.inr rfl) (d_cal c__law_mix (hr.mono (by decide)) (passAt tk) (ae_cons (d_ixC (pv 0) d_int (fun _ _ => rfl)) (ae_cons (d_ixC (pv 0) d_int (fun _ _ => rfl)) ae_nil)))) (ss_cons (s_if (t_gt (d_var 1) (d_pow d_int d_int)) (ss_one (s_ret (d_mod (d_mul (d_var 2) (d_add (d_pow (d_cal c__law_mix (hr.mono (by decide)) (passAt tk) (ae_cons (d_ixC (pv 0) d_int (fun _ _ => rfl)) (ae_cons (d_add (d_ixC (pv 0) d_int (fun _ _ => rfl)) d_int) ae_nil))) d_int) d_int)) (d_var 1)))) ss_nil) (ss_one (s_ret (d_mod (d_mod (d_mul (d_var 2) (d_add (d_var 2) d_int)) d_int) (d_var 1)))))) ss_nil) (ss_cons (s_set (i := 3) sc.nd rfl (by first | exact Or.inl rfl | exact Or.inr rfl) (d_mod (d_ixC (pv 0) d_int (fun _ _ => rfl)) (d_var 1))) (ss_cons (s_setC (d_fdiv (d_ixC (pv 0) d_int (fun _ _ => rfl)) (d_var 1)) (pv 0) d_int) (ss_one (s_ret (d_var 3))))))
abbrev N__law_names : List Str := ["_law_left_here", "_law_many", "_law_far", "_law_found", "_law_last", "_law_k"]
theorem sc__law_names : FnScope N__law_names ["_law_left_here", "_law_many"] (defScope (top 44)) := ⟨rfl, rfl, rfl, by decide +kernel, rfl, by decide +kernel, by decide +kernel⟩
theorem w__law_names (T : Txt K mg)
    (c__law_draw : Cal P w K mg base (clOf K) "_law_draw" 2 ["_law_left_here", "_law_base"] F_law_draw_v3) : Cal P w K mg base (clOf K) "_law_names" 3 ["_law_left_here", "_law_many"] F_law_names_v6 := by
  have sc := sc__law_names
  refine cal_of T.d__law_names sc (by decide) fun f cdv A outer s H E hr => ?_
  have tk : Takes (cxOf (L2.CX P w) P w K mg base N__law_names "_law_names" (defScope (top 44)) f cdv A outer s H E) (fun cls d _ H => E cls d H) := takes_of rfl rfl rfl rfl
  exact ss_cons (s_set (i := 2) sc.nd rfl (by first | exact Or.inl rfl | exact Or.inr rfl) (d_ix (d_lst (ae_cons d_int (ae_cons d_int (ae_cons d_int (ae_cons (d_pow d_int d_int) ae_nil))))) (d_cal c__law_draw (hr.mono (by decide)) (passAt tk) (ae_cons (d_var 0) (ae_cons d_int ae_nil))) (fun _ _ => rfl))) (ss_cons (s_set (i := 3) sc.nd rfl (by first | exact Or.inl rfl | exact Or.inr rfl) (d_lst ae_nil)) (ss_cons (s_set (i := 4) sc.nd rfl (by first | exact Or.inl rfl | exact Or.inr rfl) (d_neg d_int)) (ss_cons (s_for (passes_of rfl) rfl (i_range1 rfl T.b_range (ap_cons (d_var 1) ap_nil)) (pg_name (i := 5) sc.nd rfl (by first | exact Or.inl rfl | exact Or.inr rfl)) (g_name 5) (ss_cons (s_set (i := 4) sc.nd rfl (by first | exact Or.inl rfl | exact Or.inr rfl) (d_add (d_add (d_var 4) d_int) (d_cal c__law_draw (hr.mono (by decide)) (passAt tk) (ae_cons (d_var 0) (ae_cons (d_var 2) ae_nil))))) (ss_one (s_expr (d_append (pv 3) (d_var 4)))))) (ss_one (s_ret (d_var 3))))))
abbrev N__law_shuffled : List Str := ["_law_left_here", "_law_things", "_law_found", "_law_thing"]
theorem sc__law_shuffled : FnScope N__law_shuffled ["_law_left_here", "_law_things"] (defScope (top 45)) := ⟨rfl, rfl, rfl, by decide +kernel, rfl, by decide +kernel, by decide +kernel⟩
theorem w__law_shuffled (T : Txt K mg)
    (c__law_draw : Cal P w K mg base (clOf K) "_law_draw" 2 ["_law_left_here", "_law_base"] F_law_draw_v3) : Cal P w K mg base (clOf K) "_law_shuffled" 3 ["_law_left_here", "_law_things"] F_law_shuffled_v3 := by
  have sc := sc__law_shuffled
  refine cal_of T.d__law_shuffled sc (by decide) fun f cdv A outer s H E hr => ?_
  have tk : Takes (cxOf (L2.CX P w) P w K mg base N__law_shuffled "_law_shuffled" (defScope (top 45)) f cdv A outer s H E) (fun cls d _ H => E cls d H) := takes_of rfl rfl rfl rfl
  exact ss_cons (s_set (i := 2) sc.nd rfl (by first | exact Or.inl rfl | exact Or.inr rfl) (d_lst ae_nil)) (ss_cons (s_for (passes_of rfl) rfl (i_list (d_var 1)) (pg_name (i := 3) sc.nd rfl (by first | exact Or.inl rfl | exact Or.inr rfl)) (g_name 3) (ss_one (s_expr (d_insert (pv 2) (ae_cons (d_cal c__law_draw (hr.mono (by decide)) (passAt tk) (ae_cons (d_var 0) (ae_cons (d_add (d_callB (CallR.or' call_len_seq call_len_str) cd_len rfl T.b_len (by decide +kernel) (ap_cons (d_var 2) ap_nil)) d_int) ae_nil))) (ae_cons (d_var 3) ae_nil)))))) (ss_one (s_ret (d_var 2))))
abbrev N__law_tree : List Str := ["_law_left_here", "_law_names_here", "_law_order", "_law_way", "_law_found", "_law_k", "_law_other"]
theorem sc__law_tree : FnScope N__law_tree ["_law_left_here", "_law_names_here"] (defScope (top 46)) := ⟨rfl, rfl, rfl, by decide +kernel, rfl, by decide +kernel, by decide +kernel⟩
theorem w__law_tree (T : Txt K mg)
    (c__law_draw : Cal P w K mg base (clOf K) "_law_draw" 2 ["_law_left_here", "_law_base"] F_law_draw_v3)
    (c__law_shuffled : Cal P w K mg base (clOf K) "_law_shuffled" 3 ["_law_left_here", "_law_things"] F_law_shuffled_v3) : Cal P w K mg base (clOf K) "_law_tree" 4 ["_law_left_here", "_law_names_here"] F_law_tree_v2 := by
  have sc := sc__law_tree
  refine cal_of T.d__law_tree sc (by decide) fun f cdv A outer s H E hr => ?_
  have tk : Takes (cxOf (L2.CX P w) P w K mg base N__law_tree "_law_tree" (defScope (top 46)) f cdv A outer s H E) (fun cls d _ H => E cls d H) := takes_of rfl rfl rfl rfl
  exact ss_cons (s_set (i := 2) sc.nd rfl (by first | exact Or.inl rfl | exact Or.inr rfl) (d_cal c__law_shuffled (hr.mono (by decide)) (passAt tk) (ae_cons (d_var 0) (ae_cons (d_var 1) ae_nil)))) (ss_cons (s_set (i := 3) sc.nd rfl (by first | exact Or.inl rfl | exact Or.inr rfl) (d_cal c__law_draw (hr.mono (by decide)) (passAt tk) (ae_cons (d_var 0) (ae_cons d_int ae_nil)))) (ss_cons (s_set (i := 4) sc.nd rfl (by first | exact Or.inl rfl | exact Or.inr rfl) (d_lst ae_nil)) (ss_cons (s_for (passes_of rfl) rfl (i_range2 rfl T.b_range (ap_cons d_int (ap_cons (d_callB (CallR.or' call_len_seq call_len_str) cd_len rfl T.b_len (by decide +kernel) (ap_cons (d_var 2) ap_nil)) ap_nil))) (pg_name (i := 5) sc.nd rfl (by first | exact Or.inl rfl | exact Or.inr rfl)) (g_name 5) (ss_cons (s_set (i := 6) sc.nd rfl (by first | exact Or.inl rfl | exact Or.inr rfl) (d_ix (d_var 2) (d_ix (d_lst (ae_cons (d_cal c__law_draw (hr.mono (by decide)) (passAt tk) (ae_cons (d_var 0) (ae_cons (d_var 5) ae_nil))) (ae_cons (d_sub (d_var 5) d_int) (ae_cons d_int ae_nil)))) (d_var 3) (fun _ _ => rfl)) (fun _ _ => rfl))) (ss_one (s_expr (d_append (pv 4) (d_tup (ae_cons (d_callB (CallR.or' (cr_min rfl) (call_min2 rfl)) cd_min rfl T.b_min (by decide +kernel) (ap_cons (d_ix (d_var 2) (d_var 5) (fun _ _ => rfl)) (ap_cons (d_var 6) ap_nil))) (ae_cons (d_callB (CallR.or' (cr_max rfl) (call_max2 rfl)) cd_max rfl T.b_max (by decide +kernel) (ap_cons (d_ix (d_var 2) (d_var 5) (fun _ _ => rfl)) (ap_cons (d_var 6) ap_nil))) ae_nil)))))))) (ss_one (s_ret (d_callB (CallR.or' cr_sortedI (cr_sortedD hr.units)) cd_sorted rfl T.b_sorted (by decide +kernel) (ap_cons (d_var 4) ap_nil)))))))
abbrev N__law_falling : List Str := ["_law_left_here", "_law_names_here", "_law_tree_here", "_law_found", "_law_near", "_law_one", "_law_other"]
theorem sc__law_falling : FnScope N__law_falling ["_law_left_here", "_law_names_here", "_law_tree_here"] (defScope (top 47)) := ⟨rfl, rfl, rfl, by decide +kernel, rfl, by decide +kernel, by decide +kernel⟩
theorem w__law_falling (T : Txt K mg)
    (c__law_draw : Cal P w K mg base (clOf K) "_law_draw" 2 ["_law_left_here", "_law_base"] F_law_draw_v3) : Cal P w K mg base (clOf K) "_law_falling" 3 ["_law_left_here", "_law_names_here", "_law_tree_here"] F_law_falling_v3 := by
  have sc := sc__law_falling
  refine cal_of T.d__law_falling sc (by decide) fun f cdv A outer s H E hr => ?_
  have tk : Takes (cxOf (L2.CX P w) P w K mg base N__law_falling "_law_falling" (defScope (top 47)) f cdv A outer s H E) (fun cls d _ H => E cls d H) := takes_of rfl rfl rfl rfl
  exact ss_cons (s_set (i := 3) sc.nd rfl (by first | exact Or.inl rfl | exact Or.inr rfl) (d_lst (ae_cons (d_ix (d_var 1) (d_cal c__law_draw (hr.mono (by decide)) (passAt tk) (ae_cons (d_var 0) (ae_cons (d_callB (CallR.or' call_len_seq call_len_str) cd_len rfl T.b_len (by decide +kernel) (ap_cons (d_var 1) ap_nil)) ae_nil))) (fun _ _ => rfl)) ae_nil))) (ss_cons (s_while 10000 (passes_of rfl) (t_lt (d_callB (CallR.or' call_len_seq call_len_str) cd_len rfl T.b_len (by decide +kernel) (ap_cons (d_var 3) ap_nil)) (d_callB (CallR.or' call_len_seq call_len_str) cd_len rfl T.b_len (by decide +kernel) (ap_cons (d_var 1) ap_nil))) (ss_cons (s_set (i := 4) sc.nd rfl (by first | exact Or.inl rfl | exact Or.inr rfl) (d_lst ae_nil)) (ss_cons (s_for (passes_of rfl) rfl (i_list (d_var 2)) (pg_tup rfl (pgs_cons (pg_name (i := 5) sc.nd rfl (by first | exact Or.inl rfl | exact Or.inr rfl)) (pgs_cons (pg_name (i := 6) sc.nd rfl (by first | exact Or.inl rfl | exact Or.inr rfl)) pgs_nil))) (g_tup (n := 2) (g_cons (g_name 5) (g_cons (g_name 6) g_nil))) (ss_one (s_if (t_ne hr.units (d_in hr.units (by rfl) (d_var 5) (d_var 3)) (d_in hr.units (by rfl) (d_var 6) (d_var 3))) (ss_one (s_expr (d_append (pv 4) (d_ix (d_lst (ae_cons (d_var 5) (ae_cons (d_var 6) ae_nil))) (d_callTy call_int1 cd_int rfl T.b_int (by decide +kernel) (ap_cons (d_in hr.units (by rfl) (d_var 5) (d_var 3)) ap_nil)) (fun _ _ => rfl))))) ss_nil))) (ss_one (s_expr (d_append (pv 3) (d_ix (d_var 4) (d_cal c__law_draw (hr.mono (by decide)) (passAt tk) (ae_cons (d_var 0) (ae_cons (d_callB (CallR.or' call_len_seq call_len_str) cd_len rfl T.b_len (by decide +kernel) (ap_cons (d_var 4) ap_nil)) ae_nil))) (fun _ _ => rfl)))))))) (ss_one (s_ret (d_var 3))))
abbrev N__law_folk : List Str := ["_law_left_here", "_law_names_here", "_law_tree_here", "_law_way", "_law_folk_here", "_law_hand", "_law_ranking", "_law_at"]
theorem sc__law_folk : FnScope N__law_folk ["_law_left_here", "_law_names_here", "_law_tree_here"] (defScope (top 48)) := ⟨rfl, rfl, rfl, by decide +kernel, rfl, by decide +kernel, by decide +kernel⟩
theorem w__law_folk (T : Txt K mg)
    (c__law_draw : Cal P w K mg base (clOf K) "_law_draw" 2 ["_law_left_here", "_law_base"] F_law_draw_v3)
    (c__law_shuffled : Cal P w K mg base (clOf K) "_law_shuffled" 3 ["_law_left_here", "_law_things"] F_law_shuffled_v3)
    (c__law_falling : Cal P w K mg base (clOf K) "_law_falling" 3 ["_law_left_here", "_law_names_here", "_law_tree_here"] F_law_falling_v3) : Cal P w K mg base (clOf K) "_law_folk" 4 ["_law_left_here", "_law_names_here", "_law_tree_here"] F_law_folk_v14 := by
  have sc := sc__law_folk
  refine cal_of T.d__law_folk sc (by decide) fun f cdv A outer s H E hr => ?_
  have tk : Takes (cxOf (L2.CX P w) P w K mg base N__law_folk "_law_folk" (defScope (top 48)) f cdv A outer s H E) (fun cls d _ H => E cls d H) := takes_of rfl rfl rfl rfl
  exact ss_cons (s_set (i := 3) sc.nd rfl (by first | exact Or.inl rfl | exact Or.inr rfl) (d_cal c__law_draw (hr.mono (by decide)) (passAt tk) (ae_cons (d_var 0) (ae_cons d_int ae_nil)))) (ss_cons (s_set (i := 4) sc.nd rfl (by first | exact Or.inl rfl | exact Or.inr rfl) (d_lst ae_nil)) (ss_cons (s_for (passes_of rfl) rfl (i_range1 rfl T.b_range (ap_cons (d_add d_int (d_cal c__law_draw (hr.mono (by decide)) (passAt tk) (ae_cons (d_var 0) (ae_cons (d_ix (d_lst (ae_cons d_int (ae_cons d_int (ae_cons d_int ae_nil)))) (d_cal c__law_draw (hr.mono (by decide)) (passAt tk) (ae_cons (d_var 0) (ae_cons d_int ae_nil))) (fun _ _ => rfl)) ae_nil)))) ap_nil)) (pg_name (i := 5) sc.nd rfl (by first | exact Or.inl rfl | exact Or.inr rfl)) (g_name 5) (ss_cons (s_set (i := 6) sc.nd rfl (by first | exact Or.inl rfl | exact Or.inr rfl) (d_cal c__law_falling (hr.mono (by decide)) (passAt tk) (ae_cons (d_var 0) (ae_cons (d_var 1) (ae_cons (d_var 2) ae_nil))))) (ss_cons (s_if (d_tw (w_and (t_eq hr.units (d_var 3) d_int) (w_and (t_gt (d_callB (CallR.or' call_len_seq call_len_str) cd_len rfl T.b_len (by decide +kernel) (ap_cons (d_var 1) ap_nil)) d_int) (w_and1 (t_eq hr.units (d_cal c__law_draw (hr.mono (by decide)) (passAt tk) (ae_cons (d_var 0) (ae_cons d_int ae_nil))) d_int))))) (ss_cons (s_set (i := 7) sc.nd rfl (by first | exact Or.inl rfl | exact Or.inr rfl) (d_cal c__law_draw (hr.mono (by decide)) (passAt tk) (ae_cons (d_var 0) (ae_cons (d_sub (d_callB (CallR.or' call_len_seq call_len_str) cd_len rfl T.b_len (by decide +kernel) (ap_cons (d_var 1) ap_nil)) d_int) ae_nil)))) (ss_one (s_swap (i := 6) rfl (d_tup (ae_cons (d_ix (d_var 6) (d_add (d_var 7) d_int) (fun _ _ => rfl)) (ae_cons (d_ix (d_var 6) (d_var 7) (fun _ _ => rfl)) ae_nil))) (pv 6) (d_var 7) (pv 6) (d_add (d_var 7) d_int)))) ss_nil) (ss_cons (s_if (t_eq hr.units (d_var 3) d_int) (ss_one (s_set (i := 6) sc.nd rfl (by first | exact Or.inl rfl | exact Or.inr rfl) (d_cal c__law_shuffled (hr.mono (by decide)) (passAt tk) (ae_cons (d_var 0) (ae_cons (d_var 1) ae_nil))))) ss_nil) (ss_cons (s_if (d_tw (w_and (t_ne hr.units (d_var 4) (d_lst ae_nil)) (w_and1 (t_eq hr.units (d_cal c__law_draw (hr.mono (by decide)) (passAt tk) (ae_cons (d_var 0) (ae_cons d_int ae_nil))) d_int)))) (ss_one (s_set (i := 6) sc.nd rfl (by first | exact Or.inl rfl | exact Or.inr rfl) (d_callTy call_list_of cd_list rfl T.b_list (by decide +kernel) (ap_cons (d_ix (d_var 4) (d_cal c__law_draw (hr.mono (by decide)) (passAt tk) (ae_cons (d_var 0) (ae_cons (d_callB (CallR.or' call_len_seq call_len_str) cd_len rfl T.b_len (by decide +kernel) (ap_cons (d_var 4) ap_nil)) ae_nil))) (fun _ _ => rfl)) ap_nil)))) ss_nil) (ss_one (s_expr (d_append (pv 4) (d_var 6))))))))) (ss_one (s_ret (d_var 4)))))
abbrev N__law_marks : List Str := ["_law_caught", "_law_hits", "_law_words", "_law_found", "_law_word_here", "_law_hit"]
theorem sc__law_marks : FnScope N__law_marks ["_law_caught"] (defScope (top 49)) := ⟨rfl, rfl, rfl, by decide +kernel, rfl, by decide +kernel, by decide +kernel⟩
theorem w__law_marks (T : Txt K mg) : Cal P w K mg base (clOf K) "_law_marks" 1 ["_law_caught"] F_law_marks_v7 := by
  have sc := sc__law_marks
  refine cal_of T.d__law_marks sc (by decide) fun f cdv A outer s H E hr => ?_
  have tk : Takes (cxOf (L2.CX P w) P w K mg base N__law_marks "_law_marks" (defScope (top 49)) f cdv A outer s H E) (fun cls d _ H => E cls d H) := takes_of rfl rfl rfl rfl
  exact ss_cons (s_set (i := 1) sc.nd rfl (by first | exact Or.inl rfl | exact Or.inr rfl) (d_lst (ae_cons (d_isX (ns := ["NoFolk", "NoRanking"]) (m := "NoRanking") T.exc rfl T.b_isinstance (d_var 0) (pe_glob (v := .ref (clOf K "NoRanking")) rfl (T.exc.each "NoRanking" (by decide)).g rfl)) (ae_cons (d_isX (ns := ["NoFolk", "NoRanking"]) (m := "NoFolk") T.exc rfl T.b_isinstance (d_var 0) (pe_glob (v := .ref (clOf K "NoFolk")) rfl (T.exc.each "NoFolk" (by decide)).g rfl)) (ae_cons (d_isY (ns := ["NoFolk", "NoRanking"]) (m := "NoNames") T.exc T.exy_NoNames rfl T.b_isinstance (d_var 0) (pe_glob (v := .ref (clOf K "NoNames")) rfl T.exy_NoNames.g rfl)) ae_nil))))) (ss_cons (s_set (i := 1) sc.nd rfl (by first | exact Or.inl rfl | exact Or.inr rfl) (d_add (d_var 1) (d_lst (ae_cons (d_isY (ns := ["NoFolk", "NoRanking"]) (m := "NoFit") T.exc T.exy_NoFit rfl T.b_isinstance (d_var 0) (pe_glob (v := .ref (clOf K "NoFit")) rfl T.exy_NoFit.g rfl)) (ae_cons (d_isY (ns := ["NoFolk", "NoRanking"]) (m := "NoLine") T.exc T.exy_NoLine rfl T.b_isinstance (d_var 0) (pe_glob (v := .ref (clOf K "NoLine")) rfl T.exy_NoLine.g rfl)) (ae_cons (d_isY (ns := ["NoFolk", "NoRanking"]) (m := "NoNumber") T.exc T.exy_NoNumber rfl T.b_isinstance (d_var 0) (pe_glob (v := .ref (clOf K "NoNumber")) rfl T.exy_NoNumber.g rfl)) ae_nil)))))) (ss_cons (s_set (i := 1) sc.nd rfl (by first | exact Or.inl rfl | exact Or.inr rfl) (d_add (d_var 1) (d_lst (ae_cons (d_isY (ns := ["NoFolk", "NoRanking"]) (m := "NoTree") T.exc T.exy_NoTree rfl T.b_isinstance (d_var 0) (pe_glob (v := .ref (clOf K "NoTree")) rfl T.exy_NoTree.g rfl)) (ae_cons (d_isY (ns := ["NoFolk", "NoRanking"]) (m := "NoPaper") T.exc T.exy_NoPaper rfl T.b_isinstance (d_var 0) (pe_glob (v := .ref (clOf K "NoPaper")) rfl T.exy_NoPaper.g rfl)) (ae_cons (d_isY (ns := ["NoFolk", "NoRanking"]) (m := "NoText") T.exc T.exy_NoText rfl T.b_isinstance (d_var 0) (pe_glob (v := .ref (clOf K "NoText")) rfl T.exy_NoText.g rfl)) ae_nil)))))) (ss_cons (s_set (i := 1) sc.nd rfl (by first | exact Or.inl rfl | exact Or.inr rfl) (d_add (d_var 1) (d_lst (ae_cons (d_isY (ns := ["NoFolk", "NoRanking"]) (m := "NoTitle") T.exc T.exy_NoTitle rfl T.b_isinstance (d_var 0) (pe_glob (v := .ref (clOf K "NoTitle")) rfl T.exy_NoTitle.g rfl)) (ae_cons (d_isY (ns := ["NoFolk", "NoRanking"]) (m := "NoRow") T.exc T.exy_NoRow rfl T.b_isinstance (d_var 0) (pe_glob (v := .ref (clOf K "NoRow")) rfl T.exy_NoRow.g rfl)) (ae_cons (d_isY (ns := ["NoFolk", "NoRanking"]) (m := "NoBack") T.exc T.exy_NoBack rfl T.b_isinstance (d_var 0) (pe_glob (v := .ref (clOf K "NoBack")) rfl T.exy_NoBack.g rfl)) ae_nil)))))) (ss_cons (s_set (i := 1) sc.nd rfl (by first | exact Or.inl rfl | exact Or.inr rfl) (d_add (d_var 1) (d_lst (ae_cons (d_isY (ns := ["NoFolk", "NoRanking"]) (m := "TooGreat") T.exc T.exy_TooGreat rfl T.b_isinstance (d_var 0) (pe_glob (v := .ref (clOf K "TooGreat")) rfl T.exy_TooGreat.g rfl)) (ae_cons (d_isY (ns := ["NoFolk", "NoRanking"]) (m := "NoWeights") T.exc T.exy_NoWeights rfl T.b_isinstance (d_var 0) (pe_glob (v := .ref (clOf K "NoWeights")) rfl T.exy_NoWeights.g rfl)) (ae_cons (d_isY (ns := ["NoFolk", "NoRanking"]) (m := "NoFall") T.exc T.exy_NoFall rfl T.b_isinstance (d_var 0) (pe_glob (v := .ref (clOf K "NoFall")) rfl T.exy_NoFall.g rfl)) ae_nil)))))) (ss_cons (s_set (i := 1) sc.nd rfl (by first | exact Or.inl rfl | exact Or.inr rfl) (d_add (d_var 1) (d_lst (ae_cons (d_isY (ns := ["NoFolk", "NoRanking"]) (m := "NoTops") T.exc T.exy_NoTops rfl T.b_isinstance (d_var 0) (pe_glob (v := .ref (clOf K "NoTops")) rfl T.exy_NoTops.g rfl)) (ae_cons (d_isY (ns := ["NoFolk", "NoRanking"]) (m := "NoFixed") T.exc T.exy_NoFixed rfl T.b_isinstance (d_var 0) (pe_glob (v := .ref (clOf K "NoFixed")) rfl T.exy_NoFixed.g rfl)) (ae_cons (d_isY (ns := ["NoFolk", "NoRanking"]) (m := "NoHand") T.exc T.exy_NoHand rfl T.b_isinstance (d_var 0) (pe_glob (v := .ref (clOf K "NoHand")) rfl T.exy_NoHand.g rfl)) ae_nil)))))) (ss_cons (s_set (i := 1) sc.nd rfl (by first | exact Or.inl rfl | exact Or.inr rfl) (d_add (d_var 1) (d_lst (ae_cons (d_isY (ns := ["NoFolk", "NoRanking"]) (m := "NoRule") T.exc T.exy_NoRule rfl T.b_isinstance (d_var 0) (pe_glob (v := .ref (clOf K "NoRule")) rfl T.exy_NoRule.g rfl)) ae_nil)))) (ss_cons (s_set (i := 2) sc.nd rfl (by first | exact Or.inl rfl | exact Or.inr rfl) (d_split d_str d_str)) (ss_cons (s_set (i := 2) sc.nd rfl (by first | exact Or.inl rfl | exact Or.inr rfl) (d_add (d_var 2) (d_split d_str d_str))) (ss_cons (s_set (i := 2) sc.nd rfl (by first | exact Or.inl rfl | exact Or.inr rfl) (d_add (d_var 2) (d_split d_str d_str))) (ss_cons (s_setLc (i := 3) rfl sc.nd rfl rfl (sw_true rfl rfl rfl (by decide +kernel)) (own := [("_law_word_here", 4), ("_law_hit", 5)]) (i_zip rfl T.b_zip (ae_cons (d_var 2) (ae_cons (d_var 1) ae_nil)) (fun h => pi_zip (by rfl) T.b_zip h)) (blkOk_by (own := [("_law_word_here", 4), ("_law_hit", 5)]) (N := N__law_marks) (sc := defScope (top 49)) (by decide +kernel)) (g_tup (n := 2) (g_cons (g_name 4) (g_cons (g_name 5) g_nil))) (by decide) (fun _ _ _ _ _ => pg_tup rfl (pgs_cons (pg_name (i := 4) sc.nd rfl (by first | exact Or.inl rfl | exact Or.inr rfl)) (pgs_cons (pg_name (i := 5) sc.nd rfl (by first | exact Or.inl rfl | exact Or.inr rfl)) pgs_nil))) (fun _ _ _ _ _ => dts_one (d_tval (d_var 5))) (fun _ _ _ _ _ => d_var 4)) (ss_cons (s_if (d_tnot (d_tval (d_isV (ns := ["NoFolk", "NoRanking"]) T.exc rfl T.b_isinstance (d_var 0) (pe_bltn rfl T.b_ValueError (by decide +kernel) rfl)))) (ss_one (s_expr (d_append (pv 3) d_str))) ss_nil) (ss_one (s_ret (d_var 3))))))))))))))
abbrev N__law_copied : List Str := ["_law_thing", "_law_part"]
theorem sc__law_copied : FnScope N__law_copied ["_law_thing"] (defScope (top 50)) := ⟨rfl, rfl, rfl, by decide +kernel, rfl, by decide +kernel, by decide +kernel⟩
theorem wn__law_copied (T : Txt K mg) : ∀ m : Nat, Caln P w K mg base (clOf K) "_law_copied" (m + 1) ["_law_thing"] (F_law_copiedD m) := by
  have sc := sc__law_copied
  intro m
  induction m with
  | zero => exact caln_of T.d__law_copied sc (by decide) fun f cdv A outer s H E hr => sn_nev
  | succ m ih =>
    refine (?_ : Caln P w K mg base (clOf K) "_law_copied" (m + 1 + 1) ["_law_thing"] (runF N__law_copied.length 1 (p_law_copiedD (F_law_copiedD m))))
    refine caln_of T.d__law_copied sc (by decide) fun f cdv A outer s H E hr => ?_
    have tk : Takes (cxOf (L2.CX P w) P w K mg base N__law_copied "_law_copied" (defScope (top 50)) f cdv A outer s H E) (fun cls d _ H => E cls d H) := takes_of rfl rfl rfl rfl
    exact sn_cons (sn_if (d_tval (d_isi (m := "tuple") (by decide) rfl T.b_isinstance (d_var 0) (pe_bltn rfl T.b_tuple (by decide +kernel) rfl))) (sn_one (sn_ret (dn_tuple rfl T.b_tuple (dn_lc rfl sc.nd (own := [("_law_part", 1)]) (i_list (d_var 0)) (blkOk_by (own := [("_law_part", 1)]) (N := N__law_copied) (sc := defScope (top 50)) (by decide +kernel)) (g_name 1) (by decide) (fun _ _ _ _ _ => pg_name (i := 1) sc.nd rfl (by first | exact Or.inl rfl | exact Or.inr rfl)) (fun _ _ _ _ _ => dts_nil) (fun _ _ _ _ _ => dn_cal ih (hr.mono (Nat.le_refl _)) passA0 (ae_cons (d_var 1) ae_nil)))))) sn_nil) (sn_cons (sn_if (d_tval (d_isi (m := "list") (by decide) rfl T.b_isinstance (d_var 0) (pe_bltn rfl T.b_list (by decide +kernel) rfl))) (sn_one (sn_ret (dn_lc rfl sc.nd (own := [("_law_part", 1)]) (i_list (d_var 0)) (blkOk_by (own := [("_law_part", 1)]) (N := N__law_copied) (sc := defScope (top 50)) (by decide +kernel)) (g_name 1) (by decide) (fun _ _ _ _ _ => pg_name (i := 1) sc.nd rfl (by first | exact Or.inl rfl | exact Or.inr rfl)) (fun _ _ _ _ _ => dts_nil) (fun _ _ _ _ _ => dn_cal ih (hr.mono (Nat.le_refl _)) passA0 (ae_cons (d_var 1) ae_nil))))) sn_nil) (sn_one (sn_ret (dn_lf (d_var 0)))))
theorem w__law_copied (T : Txt K mg) : ∀ m : Nat, Cal P w K mg base (clOf K) "_law_copied" (m + 1) ["_law_thing"] (F_law_copied m) := by
  have sc := sc__law_copied
  intro m
  induction m with
  | zero => exact cal_of T.d__law_copied sc (by decide) fun f cdv A outer s H E hr => ss_nev
  | succ m crec =>
    refine (?_ : Cal P w K mg base (clOf K) "_law_copied" (m + 1 + 1) ["_law_thing"] (runF N__law_copied.length 1 (p_law_copied (F_law_copied m))))
    refine cal_of T.d__law_copied sc (by decide) fun f cdv A outer s H E hr => ?_
    have tk : Takes (cxOf (L2.CX P w) P w K mg base N__law_copied "_law_copied" (defScope (top 50)) f cdv A outer s H E) (fun cls d _ H => E cls d H) := takes_of rfl rfl rfl rfl
    exact ss_cons (s_if (d_tval (d_isi (m := "tuple") (by decide) rfl T.b_isinstance (d_var 0) (pe_bltn rfl T.b_tuple (by decide +kernel) rfl))) (ss_one (s_ret (d_callTy call_tuple_of cd_tuple rfl T.b_tuple (by decide +kernel) (ap_cons (d_lc rfl sc.nd (own := [("_law_part", 1)]) (i_list (d_var 0)) (blkOk_by (own := [("_law_part", 1)]) (N := N__law_copied) (sc := defScope (top 50)) (by decide +kernel)) (g_name 1) (by decide) (fun _ _ _ _ _ => pg_name (i := 1) sc.nd rfl (by first | exact Or.inl rfl | exact Or.inr rfl)) (fun _ _ _ _ _ => dts_nil) (fun _ _ _ _ _ => d_cal crec (hr.mono (Nat.le_refl _)) passA0 (ae_cons (d_var 1) ae_nil))) ap_nil)))) ss_nil) (ss_cons (s_if (d_tval (d_isi (m := "list") (by decide) rfl T.b_isinstance (d_var 0) (pe_bltn rfl T.b_list (by decide +kernel) rfl))) (ss_one (s_ret (d_lc rfl sc.nd (own := [("_law_part", 1)]) (i_list (d_var 0)) (blkOk_by (own := [("_law_part", 1)]) (N := N__law_copied) (sc := defScope (top 50)) (by decide +kernel)) (g_name 1) (by decide) (fun _ _ _ _ _ => pg_name (i := 1) sc.nd rfl (by first | exact Or.inl rfl | exact Or.inr rfl)) (fun _ _ _ _ _ => dts_nil) (fun _ _ _ _ _ => d_cal crec (hr.mono (Nat.le_refl _)) passA0 (ae_cons (d_var 1) ae_nil))))) ss_nil) (ss_one (s_ret (d_var 0))))
abbrev N__law_emptied : List Str := ["_law_thing", "_law_part"]
theorem sc__law_emptied : FnScope N__law_emptied ["_law_thing"] (defScope (top 51)) := ⟨rfl, rfl, rfl, by decide +kernel, rfl, by decide +kernel, by decide +kernel⟩
theorem w__law_emptied (T : Txt K mg) : ∀ m : Nat, CalE P w K mg base "_law_emptied" (m + 1) ["_law_thing"] m := by
  have sc := sc__law_emptied
  intro m
  induction m with
  | zero => exact cale_zero T.d__law_emptied sc
  | succ m ih =>
    refine cale_of T.d__law_emptied sc rfl fun f cdv A outer s H E d hr => ?_
    have tk : Takes (cxOf (L2.CX P w) P w K mg base N__law_emptied "_law_emptied" (defScope (top 51)) f cdv A outer s H E) (fun cls d _ H => E cls d H) := takes_of rfl rfl rfl rfl
    exact em_body (fn := "_law_emptied") ih (hr.mono (Nat.le_refl _)) (passAt tk) (passes_of rfl) rfl sc.nd rfl rfl (by first | exact Or.inl rfl | exact Or.inr (Or.inl rfl) | exact Or.inr (Or.inr rfl)) (by first | exact Or.inl rfl | exact Or.inr (Or.inl rfl) | exact Or.inr (Or.inr rfl)) (by first | exact Or.inl rfl | exact Or.inr rfl) (by first | exact Or.inl rfl | exact Or.inr rfl) rfl T.b_isinstance (fun _ => pe_bltn rfl T.b_list (by decide +kernel) rfl) (fun _ => pe_bltn rfl T.b_tuple (by decide +kernel) rfl) rfl (by decide) (by decide) (by decide) (by decide) (by decide)
abbrev N__law_told : List Str := ["_law_way", "_law_thing", "_law_caught", "_law_handed", "e"]
theorem sc__law_told : FnScope N__law_told ["_law_way", "_law_thing"] (defScope (top 52)) := ⟨rfl, rfl, rfl, by decide +kernel, rfl, by decide +kernel, by decide +kernel⟩
theorem w__law_told (T : Txt K mg)
    (c_ranking_text : Cal P w K mg base (clOf K) "ranking_text" 5 ["ranking"] F_ranking_text)
    (c_folk_text : Cal P w K mg base (clOf K) "folk_text" 6 ["folk"] F_folk_text)
    (c__law_marks : Cal P w K mg base (clOf K) "_law_marks" 1 ["_law_caught"] F_law_marks_v7)
    (c__law_copied : Cal P w K mg base (clOf K) "_law_copied" 7 ["_law_thing"] (F_law_copied 6)) : Cal P w K mg base (clOf K) "_law_told" 8 ["_law_way", "_law_thing"] F_law_told_v33 := by
  have sc := sc__law_told
  refine cal_of T.d__law_told sc (by decide) fun f cdv A outer s H E hr => ?_
  have tk : Takes (cxOf (L2.CX P w) P w K mg base N__law_told "_law_told" (defScope (top 52)) f cdv A outer s H E) (fun cls d _ H => E cls d H) := takes_of rfl rfl rfl rfl
  exact ss_cons (s_set (i := 2) sc.nd rfl (by first | exact Or.inl rfl | exact Or.inr rfl) d_non) (ss_cons (s_set (i := 3) sc.nd rfl (by first | exact Or.inl rfl | exact Or.inr rfl) (d_cal c__law_copied (hr.mono (by decide)) (passAt tk) (ae_cons (d_var 1) ae_nil))) (ss_cons (s_try (ns := ["NoFolk", "NoRanking"]) (i := 4) (j := 2) rfl T.exc.top rfl rfl rfl sc.nd rfl rfl ⟨rfl, by decide, .inl T.exc.gF⟩ tk (fun W pn xe tk _ => ss_cons (s_if (t_eq hr.units (d_var 0) d_int) (ss_one (s_expr (d_cal c_ranking_text (hr.mono (by decide)) (passAt tk) (ae_cons (d_var 3) ae_nil)))) ss_nil) (ss_one (s_if (t_eq hr.units (d_var 0) d_int) (ss_one (s_expr (d_cal c_folk_text (hr.mono (by decide)) (passAt tk) (ae_cons (d_var 3) ae_nil)))) ss_nil))) (fun a oe pn => pss_one (ps_set (i := 2) sc.nd rfl (by first | exact Or.inl rfl | exact Or.inr rfl) (pv 4)))) (ss_cons (s_if (t_ne hr.units (d_var 3) (d_var 1)) (ss_one (s_ret (d_lst (ae_cons d_str ae_nil)))) ss_nil) (ss_one (s_ret (d_cal c__law_marks (hr.mono (by decide)) (passAt tk) (ae_cons (d_var 2) ae_nil)))))))
abbrev N__law_word : List Str := ["_law_ranking", "_law_name"]
theorem sc__law_word : FnScope N__law_word ["_law_ranking"] (defScope (top 53)) := ⟨rfl, rfl, rfl, by decide +kernel, rfl, by decide +kernel, by decide +kernel⟩
theorem w__law_word (T : Txt K mg) : Cal P w K mg base (clOf K) "_law_word" 1 ["_law_ranking"] F_law_word := by
  have sc := sc__law_word
  refine cal_of T.d__law_word sc (by decide) fun f cdv A outer s H E hr => ?_
  have tk : Takes (cxOf (L2.CX P w) P w K mg base N__law_word "_law_word" (defScope (top 53)) f cdv A outer s H E) (fun cls d _ H => E cls d H) := takes_of rfl rfl rfl rfl
  exact ss_one (s_ret (d_join d_str (d_lc rfl sc.nd (own := [("_law_name", 1)]) (i_list (d_var 0)) (blkOk_by (own := [("_law_name", 1)]) (N := N__law_word) (sc := defScope (top 53)) (by decide +kernel)) (g_name 1) (by decide) (fun _ _ _ _ _ => pg_name (i := 1) sc.nd rfl (by first | exact Or.inl rfl | exact Or.inr rfl)) (fun _ _ _ _ _ => dts_nil) (fun _ _ _ _ _ => d_strC hr rfl T.b_str (d_var 1)))))
abbrev N__law_great : List Str := ["_law_left_here", "_law_names_here", "_law_name"]
theorem sc__law_great : FnScope N__law_great ["_law_left_here", "_law_names_here"] (defScope (top 54)) := ⟨rfl, rfl, rfl, by decide +kernel, rfl, by decide +kernel, by decide +kernel⟩
theorem w__law_great (T : Txt K mg)
    (c__law_draw : Cal P w K mg base (clOf K) "_law_draw" 2 ["_law_left_here", "_law_base"] F_law_draw_v3) : Cal P w K mg base (clOf K) "_law_great" 3 ["_law_left_here", "_law_names_here"] F_law_great_v2 := by
  have sc := sc__law_great
  refine cal_of T.d__law_great sc (by decide) fun f cdv A outer s H E hr => ?_
  have tk : Takes (cxOf (L2.CX P w) P w K mg base N__law_great "_law_great" (defScope (top 54)) f cdv A outer s H E) (fun cls d _ H => E cls d H) := takes_of rfl rfl rfl rfl
  exact ss_cons (s_if (t_gt (d_cal c__law_draw (hr.mono (by decide)) (passAt tk) (ae_cons (d_var 0) (ae_cons d_int ae_nil))) d_int) (ss_one (s_ret (d_var 1))) ss_nil) (ss_one (s_ret (d_lc rfl sc.nd (own := [("_law_name", 2)]) (i_list (d_var 1)) (blkOk_by (own := [("_law_name", 2)]) (N := N__law_great) (sc := defScope (top 54)) (by decide +kernel)) (g_name 2) (by decide) (fun _ _ _ _ _ => pg_name (i := 2) sc.nd rfl (by first | exact Or.inl rfl | exact Or.inr rfl)) (fun _ _ _ _ _ => dts_nil) (fun _ _ _ _ _ => d_sub (d_sub (d_add (d_var 2) (d_pow d_int d_int)) d_int) (d_ix (d_var 1) (d_neg d_int) (fun _ _ => rfl))))))
abbrev N_law : List Str := ["_law_script", "_law_cell", "_law_left_here", "_law_names_here", "_law_folk_here", "_law_handed", "_law_text", "_law_found", "_law_one", "_law_first", "_law_none", "_law_odd", "_law_strange", "_law_ranking"]
theorem sc_law : FnScope N_law ["_law_script"] (defScope (top 55)) := ⟨rfl, rfl, rfl, by decide +kernel, rfl, by decide +kernel, by decide +kernel⟩
theorem w_law (T : Txt K mg) (hp : LawOkS 14 p_law_k80)
    (c_ranking_text : Cal P w K mg base (clOf K) "ranking_text" 5 ["ranking"] F_ranking_text)
    (c_read_ranking : Cal P w K mg base (clOf K) "read_ranking" 5 ["word"] F_read_ranking_v8)
    (c_folk_text : Cal P w K mg base (clOf K) "folk_text" 6 ["folk"] F_folk_text)
    (c_read_folk : Cal P w K mg base (clOf K) "read_folk" 5 ["text"] F_read_folk_v5)
    (c__law_left : Cal P w K mg base (clOf K) "_law_left" 1 ["_law_cell"] F_law_left)
    (c__law_draw : Cal P w K mg base (clOf K) "_law_draw" 2 ["_law_left_here", "_law_base"] F_law_draw_v3)
    (c__law_names : Cal P w K mg base (clOf K) "_law_names" 3 ["_law_left_here", "_law_many"] F_law_names_v6)
    (c__law_tree : Cal P w K mg base (clOf K) "_law_tree" 4 ["_law_left_here", "_law_names_here"] F_law_tree_v2)
    (c__law_folk : Cal P w K mg base (clOf K) "_law_folk" 4 ["_law_left_here", "_law_names_here", "_law_tree_here"] F_law_folk_v14)
    (c__law_copied : Cal P w K mg base (clOf K) "_law_copied" 7 ["_law_thing"] (F_law_copied 6))
    (c__law_told : Cal P w K mg base (clOf K) "_law_told" 8 ["_law_way", "_law_thing"] F_law_told_v33)
    (c__law_word : Cal P w K mg base (clOf K) "_law_word" 1 ["_law_ranking"] F_law_word)
    (c__law_great : Cal P w K mg base (clOf K) "_law_great" 3 ["_law_left_here", "_law_names_here"] F_law_great_v2)
    (cn__law_copied : Caln P w K mg base (clOf K) "_law_copied" 7 ["_law_thing"] (F_law_copiedD 6))
    (ce__law_emptied : CalE P w K mg base "_law_emptied" 7 ["_law_thing"] 6) {f : Addr} {fd : FuncData} (F : Fun K "law" "law" (top 55) f fd) : FnG P w K mg base (L2.CX P w) 9 f fd ["_law_script"] (spLaw K) := by
  have sc := sc_law
  refine law_ok2 (cl := clOf K) F sc (fun f cdv A outer s H E hr => ?_) hp
  have tk : Takes (cxOf (L2.CX P w) P w K mg base N_law "law" (defScope (top 55)) f cdv A outer s H E) (fun cls d _ H => E cls d H) := takes_of rfl rfl rfl rfl
  exact ss_cons (s_forW (k := 2) (passes_of rfl) rfl (i_list (d_add (d_lst (ae_cons d_int ae_nil)) (d_scCut (k := 5) (d_var 0)))) (pg_name (i := 1) sc.nd rfl (by first | exact Or.inl rfl | exact Or.inr rfl)) (g_name 1) sc.nd rfl (by first | exact Or.inl rfl | exact Or.inr rfl) (d_cal c__law_left (hr.mono (by decide)) (passAt tk) (ae_cons (d_var 1) ae_nil)) (ss_cons (s_set (i := 3) sc.nd rfl (by first | exact Or.inl rfl | exact Or.inr rfl) (d_cal c__law_great (hr.mono (by decide)) (passAt tk) (ae_cons (d_var 2) (ae_cons (d_cal c__law_names (hr.mono (by decide)) (passAt tk) (ae_cons (d_var 2) (ae_cons (d_add d_int (d_cal c__law_draw (hr.mono (by decide)) (passAt tk) (ae_cons (d_var 2) (ae_cons d_int ae_nil)))) ae_nil))) ae_nil)))) (ss_cons (s_set (i := 4) sc.nd rfl (by first | exact Or.inl rfl | exact Or.inr rfl) (d_cal c__law_folk (hr.mono (by decide)) (passAt tk) (ae_cons (d_var 2) (ae_cons (d_var 3) (ae_cons (d_cal c__law_tree (hr.mono (by decide)) (passAt tk) (ae_cons (d_var 2) (ae_cons (d_var 3) ae_nil))) ae_nil))))) (ss_cons (s_set (i := 5) sc.nd rfl (by first | exact Or.inl rfl | exact Or.inr rfl) (d_cal c__law_copied (hr.mono (by decide)) (passAt tk) (ae_cons (d_var 4) ae_nil))) (ss_cons (s_set (i := 6) sc.nd rfl (by first | exact Or.inl rfl | exact Or.inr rfl) (d_join d_str (d_lc rfl sc.nd (own := [("_law_ranking", 13)]) (i_list (d_var 4)) (blkOk_by (own := [("_law_ranking", 13)]) (N := N_law) (sc := defScope (top 55)) (by decide +kernel)) (g_name 13) (by decide) (fun _ _ _ _ _ => pg_name (i := 13) sc.nd rfl (by first | exact Or.inl rfl | exact Or.inr rfl)) (fun _ _ _ _ _ => dts_nil) (fun _ _ _ _ _ => d_add (d_cal c__law_word (hr.mono (by decide)) passA0 (ae_cons (d_var 13) ae_nil)) d_str)))) (ss_cons (s_if (d_tw (w_or (t_ne hr.units (d_cal c_folk_text (hr.mono (by decide)) (passAt tk) (ae_cons (d_var 5) ae_nil)) (d_var 6)) (w_or1 (t_ne hr.units (d_var 5) (d_var 4))))) (ss_one (s_ret d_bl)) ss_nil) (ss_cons (s_if (t_ne hr.units (d_lc rfl sc.nd (own := [("_law_one", 8)]) (i_list (d_var 5)) (blkOk_by (own := [("_law_one", 8)]) (N := N_law) (sc := defScope (top 55)) (by decide +kernel)) (g_name 8) (by decide) (fun _ _ _ _ _ => pg_name (i := 8) sc.nd rfl (by first | exact Or.inl rfl | exact Or.inr rfl)) (fun _ _ _ _ _ => dts_nil) (fun _ _ _ _ _ => d_cal c_ranking_text (hr.mono (by decide)) passA0 (ae_cons (d_var 8) ae_nil))) (d_slice (d_split (d_var 6) d_str) dp_none (dp_some (d_neg d_int)))) (ss_one (s_ret d_bl)) ss_nil) (u_block (j := 7) [5, 4] sc.nd rfl (by first | exact Or.inl rfl | exact Or.inr rfl) (dn_calD c_read_folk (hr.mono (by decide)) (passAt tk) (ae_cons (d_var 6) ae_nil)) (uf_cons (u_if (d_tw (w_or (d_tnot (d_tval (d_isi (m := "list") (by decide) rfl T.b_isinstance (d_var 7) (pe_bltn rfl T.b_list (by decide +kernel) rfl)))) (w_or1 (t_ne hr.units (d_var 7) (d_var 4))))) (ss_one (s_ret d_bl))) (uf_mutd (t := (fun d _ => dle 5 d)) (js := [7]) (by decide) (m_emptied (m := 5) ce__law_emptied (hr.mono (by decide)) (passAt tk) (pv 7)) (ss_cons (s_set (i := 8) sc.nd rfl (by first | exact Or.inl rfl | exact Or.inr rfl) (d_cal c_read_ranking (hr.mono (by decide)) (passAt tk) (ae_cons (d_cal c__law_word (hr.mono (by decide)) (passAt tk) (ae_cons (d_ix (d_var 4) (d_neg d_int) (fun _ _ => rfl)) ae_nil)) ae_nil))) (ss_cons (s_if (d_tw (w_or (t_ne hr.units (d_var 8) (d_ix (d_var 4) (d_neg d_int) (fun _ _ => rfl))) (w_or1 (t_ne hr.units (d_cal c_read_folk (hr.mono (by decide)) (passAt tk) (ae_cons (d_var 6) ae_nil)) (d_var 4))))) (ss_one (s_ret d_bl)) ss_nil) (ss_cons (s_expr (d_clear (pv 8))) (ss_cons (s_if (t_ne hr.units (d_cal c_read_ranking (hr.mono (by decide)) (passAt tk) (ae_cons (d_cal c__law_word (hr.mono (by decide)) (passAt tk) (ae_cons (d_ix (d_var 4) (d_neg d_int) (fun _ _ => rfl)) ae_nil)) ae_nil)) (d_ix (d_var 4) (d_neg d_int) (fun _ _ => rfl))) (ss_one (s_ret d_bl)) ss_nil) (ss_cons (s_set (i := 9) sc.nd rfl (by first | exact Or.inl rfl | exact Or.inr rfl) (d_ix (d_var 4) d_int (fun _ _ => rfl))) (ss_cons (s_set (i := 10) sc.nd rfl (by first | exact Or.inl rfl | exact Or.inr rfl) (d_lst (ae_cons d_non (ae_cons (d_tup ae_nil) (ae_cons (d_lst ae_nil) (ae_cons (d_callTy call_tuple_of cd_tuple rfl T.b_tuple (by decide +kernel) (ap_cons (d_var 9) ap_nil)) (ae_cons (d_add (d_var 9) (d_slice (d_var 9) dp_none (dp_some d_int))) (ae_cons (d_add (d_lst (ae_cons (d_neg d_int) ae_nil)) (d_var 9)) ae_nil)))))))) (ss_cons (s_set (i := 10) sc.nd rfl (by first | exact Or.inl rfl | exact Or.inr rfl) (d_add (d_var 10) (d_lst (ae_cons (d_lst (ae_cons d_bl ae_nil)) (ae_cons (d_lst (ae_cons d_str ae_nil)) (ae_cons (d_lRng1 rfl rfl T.b_list rfl T.b_range d_int) (ae_cons d_str (ae_cons d_int ae_nil)))))))) (ss_cons (s_set (i := 11) sc.nd rfl (by first | exact Or.inl rfl | exact Or.inr rfl) (d_ix (d_var 10) (d_cal c__law_draw (hr.mono (by decide)) (passAt tk) (ae_cons (d_var 2) (ae_cons (d_callB (CallR.or' call_len_seq call_len_str) cd_len rfl T.b_len (by decide +kernel) (ap_cons (d_var 10) ap_nil)) ae_nil))) (fun _ _ => rfl))) (ss_cons (s_if (d_tw (w_or (t_ne hr.units (d_cal c__law_told (hr.mono (by decide)) (passAt tk) (ae_cons d_int (ae_cons (d_var 11) ae_nil))) (d_lst (ae_cons d_str ae_nil))) (w_or1 (t_ne hr.units (d_cal c__law_told (hr.mono (by decide)) (passAt tk) (ae_cons d_int (ae_cons (d_lst (ae_cons (d_var 11) ae_nil)) ae_nil))) (d_lst (ae_cons d_str ae_nil)))))) (ss_one (s_ret d_bl)) ss_nil) (ss_cons (s_if (t_ne hr.units (d_cal c__law_told (hr.mono (by decide)) (passAt tk) (ae_cons d_int (ae_cons (d_var 11) ae_nil))) (d_lst (ae_cons d_str ae_nil))) (ss_one (s_ret d_bl)) ss_nil) (ss_cons (s_set (i := 12) sc.nd rfl (by first | exact Or.inl rfl | exact Or.inr rfl) (d_add (d_slice (d_var 9) (dp_some d_int) dp_none) (d_lst (ae_cons (d_add (d_ix (d_var 3) (d_neg d_int) (fun _ _ => rfl)) d_int) ae_nil)))) (ss_one (s_if (d_tw (w_or (t_ne hr.units (d_cal c__law_told (hr.mono (by decide)) (passAt tk) (ae_cons d_int (ae_cons (d_mul (d_lst (ae_cons (d_var 9) ae_nil)) d_int) ae_nil))) (d_lst (ae_cons d_str ae_nil))) (w_or1 (t_ne hr.units (d_cal c__law_told (hr.mono (by decide)) (passAt tk) (ae_cons d_int (ae_cons (d_add (d_slice (d_var 4) dp_none (dp_some d_int)) (d_lst (ae_cons (d_var 12) ae_nil))) ae_nil))) (d_lst (ae_cons d_str ae_nil)))))) (ss_one (s_ret d_bl)) ss_nil))))))))))))))))))))))) (ss_one (s_ret d_bl))
end
theorem all_mk {P : Program} {w : World} {K : PySem.W.Frag} {h : Heap} {mg : Str → Option Value} {fa : Addr} (X : K.In h) (G : h.Ns mainGlobals mg) (hfa : mg "law" = some (.ref fa)) {f_is_number : Addr} {od_is_number an_is_number : Option Addr} {sl_is_number : Array (Option Value)} {oc_is_number kV_is_number dc_is_number pm_is_number cd_is_number ct_is_number : Value} {f_are_unlike_names : Addr} {od_are_unlike_names an_are_unlike_names : Option Addr} {sl_are_unlike_names : Array (Option Value)} {oc_are_unlike_names kV_are_unlike_names dc_are_unlike_names pm_are_unlike_names cd_are_unlike_names ct_are_unlike_names : Value} {f_is_ranking : Addr} {od_is_ranking an_is_ranking : Option Addr} {sl_is_ranking : Array (Option Value)} {oc_is_ranking kV_is_ranking dc_is_ranking pm_is_ranking cd_is_ranking ct_is_ranking : Value} {f_is_folk : Addr} {od_is_folk an_is_folk : Option Addr} {sl_is_folk : Array (Option Value)} {oc_is_folk kV_is_folk dc_is_folk pm_is_folk cd_is_folk ct_is_folk : Value} {f_must_be_ranking : Addr} {od_must_be_ranking an_must_be_ranking : Option Addr} {sl_must_be_ranking : Array (Option Value)} {oc_must_be_ranking kV_must_be_ranking dc_must_be_ranking pm_must_be_ranking cd_must_be_ranking ct_must_be_ranking : Value} {f_must_be_folk : Addr} {od_must_be_folk an_must_be_folk : Option Addr} {sl_must_be_folk : Array (Option Value)} {oc_must_be_folk kV_must_be_folk dc_must_be_folk pm_must_be_folk cd_must_be_folk ct_must_be_folk : Value} {f_number_of : Addr} {od_number_of an_number_of : Option Addr} {sl_number_of : Array (Option Value)} {oc_number_of kV_number_of dc_number_of pm_number_of cd_number_of ct_number_of : Value} {f_ranking_of : Addr} {od_ranking_of an_ranking_of : Option Addr} {sl_ranking_of : Array (Option Value)} {oc_ranking_of kV_ranking_of dc_ranking_of pm_ranking_of cd_ranking_of ct_ranking_of : Value} {f_in_one : Addr} {od_in_one an_in_one : Option Addr} {sl_in_one : Array (Option Value)} {oc_in_one kV_in_one dc_in_one pm_in_one cd_in_one ct_in_one : Value} {f_ranking_text : Addr} {od_ranking_text an_ranking_text : Option Addr} {sl_ranking_text : Array (Option Value)} {oc_ranking_text kV_ranking_text dc_ranking_text pm_ranking_text cd_ranking_text ct_ranking_text : Value} {f_read_ranking : Addr} {od_read_ranking an_read_ranking : Option Addr} {sl_read_ranking : Array (Option Value)} {oc_read_ranking kV_read_ranking dc_read_ranking pm_read_ranking cd_read_ranking ct_read_ranking : Value} {f_folk_text : Addr} {od_folk_text an_folk_text : Option Addr} {sl_folk_text : Array (Option Value)} {oc_folk_text kV_folk_text dc_folk_text pm_folk_text cd_folk_text ct_folk_text : Value} {f_read_folk : Addr} {od_read_folk an_read_folk : Option Addr} {sl_read_folk : Array (Option Value)} {oc_read_folk kV_read_folk dc_read_folk pm_read_folk cd_read_folk ct_read_folk : Value} {f__law_mix : Addr} {od__law_mix an__law_mix : Option Addr} {sl__law_mix : Array (Option Value)} {oc__law_mix kV__law_mix dc__law_mix pm__law_mix cd__law_mix ct__law_mix : Value} {f__law_left : Addr} {od__law_left an__law_left : Option Addr} {sl__law_left : Array (Option Value)} {oc__law_left kV__law_left dc__law_left pm__law_left cd__law_left ct__law_left : Value} {f__law_draw : Addr} {od__law_draw an__law_draw : Option Addr} {sl__law_draw : Array (Option Value)} {oc__law_draw kV__law_draw dc__law_draw pm__law_draw cd__law_draw ct__law_draw : Value} {f__law_names : Addr} {od__law_names an__law_names : Option Addr} {sl__law_names : Array (Option Value)} {oc__law_names kV__law_names dc__law_names pm__law_names cd__law_names ct__law_names : Value} {f__law_shuffled : Addr} {od__law_shuffled an__law_shuffled : Option Addr} {sl__law_shuffled : Array (Option Value)} {oc__law_shuffled kV__law_shuffled dc__law_shuffled pm__law_shuffled cd__law_shuffled ct__law_shuffled : Value} {f__law_tree : Addr} {od__law_tree an__law_tree : Option Addr} {sl__law_tree : Array (Option Value)} {oc__law_tree kV__law_tree dc__law_tree pm__law_tree cd__law_tree ct__law_tree : Value} {f__law_falling : Addr} {od__law_falling an__law_falling : Option Addr} {sl__law_falling : Array (Option Value)} {oc__law_falling kV__law_falling dc__law_falling pm__law_falling cd__law_falling ct__law_falling : Value} {f__law_folk : Addr} {od__law_folk an__law_folk : Option Addr} {sl__law_folk : Array (Option Value)} {oc__law_folk kV__law_folk dc__law_folk pm__law_folk cd__law_folk ct__law_folk : Value} {f__law_marks : Addr} {od__law_marks an__law_marks : Option Addr} {sl__law_marks : Array (Option Value)} {oc__law_marks kV__law_marks dc__law_marks pm__law_marks cd__law_marks ct__law_marks : Value} {f__law_copied : Addr} {od__law_copied an__law_copied : Option Addr} {sl__law_copied : Array (Option Value)} {oc__law_copied kV__law_copied dc__law_copied pm__law_copied cd__law_copied ct__law_copied : Value} {f__law_emptied : Addr} {od__law_emptied an__law_emptied : Option Addr} {sl__law_emptied : Array (Option Value)} {oc__law_emptied kV__law_emptied dc__law_emptied pm__law_emptied cd__law_emptied ct__law_emptied : Value} {f__law_told : Addr} {od__law_told an__law_told : Option Addr} {sl__law_told : Array (Option Value)} {oc__law_told kV__law_told dc__law_told pm__law_told cd__law_told ct__law_told : Value} {f__law_word : Addr} {od__law_word an__law_word : Option Addr} {sl__law_word : Array (Option Value)} {oc__law_word kV__law_word dc__law_word pm__law_word cd__law_word ct__law_word : Value} {f__law_great : Addr} {od__law_great an__law_great : Option Addr} {sl__law_great : Array (Option Value)} {oc__law_great kV__law_great dc__law_great pm__law_great cd__law_great ct__law_great : Value} {f_law : Addr} {od_law an_law : Option Addr} {sl_law : Array (Option Value)} {oc_law kV_law dc_law pm_law cd_law ct_law : Value} {t_MOST_NAMES : Tok} {t_MOST_HANDS : Tok} {t_MOST_FIGURES : Tok} {t_FIGURES : Tok} {C_NoFolk : Addr} {C_NoRanking : Addr} {C_FolkError : Addr} {C_NoBack : Addr} {C_NoFall : Addr} {C_NoFit : Addr} {C_NoFixed : Addr} {C_NoHand : Addr} {C_NoLine : Addr} {C_NoNames : Addr} {C_NoNumber : Addr} {C_NoPaper : Addr} {C_NoRow : Addr} {C_NoRule : Addr} {C_NoText : Addr} {C_NoTitle : Addr} {C_NoTops : Addr} {C_NoTree : Addr} {C_NoWeights : Addr} {C_TooGreat : Addr}
    (a_is_number : PySem.W.nsIn K mainGlobals "is_number" = some (some (.ref f_is_number))) (l_is_number : K.lookup f_is_number = some ⟨oc_is_number, od_is_number, .func (PySem.W.fnOf "is_number" "is_number" (defArgs (top 24)) (defBody (top 24)) (defScope (top 24)) .none kV_is_number dc_is_number pm_is_number an_is_number cd_is_number ct_is_number), sl_is_number⟩) (c_is_number : PySem.W.codeIn K cd_is_number "is_number" = true) (k_is_number : PySem.W.keepIn K (.ref f_is_number) = true)
    (a_are_unlike_names : PySem.W.nsIn K mainGlobals "are_unlike_names" = some (some (.ref f_are_unlike_names))) (l_are_unlike_names : K.lookup f_are_unlike_names = some ⟨oc_are_unlike_names, od_are_unlike_names, .func (PySem.W.fnOf "are_unlike_names" "are_unlike_names" (defArgs (top 25)) (defBody (top 25)) (defScope (top 25)) .none kV_are_unlike_names dc_are_unlike_names pm_are_unlike_names an_are_unlike_names cd_are_unlike_names ct_are_unlike_names), sl_are_unlike_names⟩) (c_are_unlike_names : PySem.W.codeIn K cd_are_unlike_names "are_unlike_names" = true) (k_are_unlike_names : PySem.W.keepIn K (.ref f_are_unlike_names) = true)
    (a_is_ranking : PySem.W.nsIn K mainGlobals "is_ranking" = some (some (.ref f_is_ranking))) (l_is_ranking : K.lookup f_is_ranking = some ⟨oc_is_ranking, od_is_ranking, .func (PySem.W.fnOf "is_ranking" "is_ranking" (defArgs (top 26)) (defBody (top 26)) (defScope (top 26)) .none kV_is_ranking dc_is_ranking pm_is_ranking an_is_ranking cd_is_ranking ct_is_ranking), sl_is_ranking⟩) (c_is_ranking : PySem.W.codeIn K cd_is_ranking "is_ranking" = true) (k_is_ranking : PySem.W.keepIn K (.ref f_is_ranking) = true)
    (a_is_folk : PySem.W.nsIn K mainGlobals "is_folk" = some (some (.ref f_is_folk))) (l_is_folk : K.lookup f_is_folk = some ⟨oc_is_folk, od_is_folk, .func (PySem.W.fnOf "is_folk" "is_folk" (defArgs (top 27)) (defBody (top 27)) (defScope (top 27)) .none kV_is_folk dc_is_folk pm_is_folk an_is_folk cd_is_folk ct_is_folk), sl_is_folk⟩) (c_is_folk : PySem.W.codeIn K cd_is_folk "is_folk" = true) (k_is_folk : PySem.W.keepIn K (.ref f_is_folk) = true)
    (a_must_be_ranking : PySem.W.nsIn K mainGlobals "must_be_ranking" = some (some (.ref f_must_be_ranking))) (l_must_be_ranking : K.lookup f_must_be_ranking = some ⟨oc_must_be_ranking, od_must_be_ranking, .func (PySem.W.fnOf "must_be_ranking" "must_be_ranking" (defArgs (top 28)) (defBody (top 28)) (defScope (top 28)) .none kV_must_be_ranking dc_must_be_ranking pm_must_be_ranking an_must_be_ranking cd_must_be_ranking ct_must_be_ranking), sl_must_be_ranking⟩) (c_must_be_ranking : PySem.W.codeIn K cd_must_be_ranking "must_be_ranking" = true) (k_must_be_ranking : PySem.W.keepIn K (.ref f_must_be_ranking) = true)
    (a_must_be_folk : PySem.W.nsIn K mainGlobals "must_be_folk" = some (some (.ref f_must_be_folk))) (l_must_be_folk : K.lookup f_must_be_folk = some ⟨oc_must_be_folk, od_must_be_folk, .func (PySem.W.fnOf "must_be_folk" "must_be_folk" (defArgs (top 29)) (defBody (top 29)) (defScope (top 29)) .none kV_must_be_folk dc_must_be_folk pm_must_be_folk an_must_be_folk cd_must_be_folk ct_must_be_folk), sl_must_be_folk⟩) (c_must_be_folk : PySem.W.codeIn K cd_must_be_folk "must_be_folk" = true) (k_must_be_folk : PySem.W.keepIn K (.ref f_must_be_folk) = true)
    (a_number_of : PySem.W.nsIn K mainGlobals "number_of" = some (some (.ref f_number_of))) (l_number_of : K.lookup f_number_of = some ⟨oc_number_of, od_number_of, .func (PySem.W.fnOf "number_of" "number_of" (defArgs (top 33)) (defBody (top 33)) (defScope (top 33)) .none kV_number_of dc_number_of pm_number_of an_number_of cd_number_of ct_number_of), sl_number_of⟩) (c_number_of : PySem.W.codeIn K cd_number_of "number_of" = true) (k_number_of : PySem.W.keepIn K (.ref f_number_of) = true)
    (a_ranking_of : PySem.W.nsIn K mainGlobals "ranking_of" = some (some (.ref f_ranking_of))) (l_ranking_of : K.lookup f_ranking_of = some ⟨oc_ranking_of, od_ranking_of, .func (PySem.W.fnOf "ranking_of" "ranking_of" (defArgs (top 34)) (defBody (top 34)) (defScope (top 34)) .none kV_ranking_of dc_ranking_of pm_ranking_of an_ranking_of cd_ranking_of ct_ranking_of), sl_ranking_of⟩) (c_ranking_of : PySem.W.codeIn K cd_ranking_of "ranking_of" = true) (k_ranking_of : PySem.W.keepIn K (.ref f_ranking_of) = true)
    (a_in_one : PySem.W.nsIn K mainGlobals "in_one" = some (some (.ref f_in_one))) (l_in_one : K.lookup f_in_one = some ⟨oc_in_one, od_in_one, .func (PySem.W.fnOf "in_one" "in_one" (defArgs (top 35)) (defBody (top 35)) (defScope (top 35)) .none kV_in_one dc_in_one pm_in_one an_in_one cd_in_one ct_in_one), sl_in_one⟩) (c_in_one : PySem.W.codeIn K cd_in_one "in_one" = true) (k_in_one : PySem.W.keepIn K (.ref f_in_one) = true)
    (a_ranking_text : PySem.W.nsIn K mainGlobals "ranking_text" = some (some (.ref f_ranking_text))) (l_ranking_text : K.lookup f_ranking_text = some ⟨oc_ranking_text, od_ranking_text, .func (PySem.W.fnOf "ranking_text" "ranking_text" (defArgs (top 36)) (defBody (top 36)) (defScope (top 36)) .none kV_ranking_text dc_ranking_text pm_ranking_text an_ranking_text cd_ranking_text ct_ranking_text), sl_ranking_text⟩) (c_ranking_text : PySem.W.codeIn K cd_ranking_text "ranking_text" = true) (k_ranking_text : PySem.W.keepIn K (.ref f_ranking_text) = true)
    (a_read_ranking : PySem.W.nsIn K mainGlobals "read_ranking" = some (some (.ref f_read_ranking))) (l_read_ranking : K.lookup f_read_ranking = some ⟨oc_read_ranking, od_read_ranking, .func (PySem.W.fnOf "read_ranking" "read_ranking" (defArgs (top 37)) (defBody (top 37)) (defScope (top 37)) .none kV_read_ranking dc_read_ranking pm_read_ranking an_read_ranking cd_read_ranking ct_read_ranking), sl_read_ranking⟩) (c_read_ranking : PySem.W.codeIn K cd_read_ranking "read_ranking" = true) (k_read_ranking : PySem.W.keepIn K (.ref f_read_ranking) = true)
    (a_folk_text : PySem.W.nsIn K mainGlobals "folk_text" = some (some (.ref f_folk_text))) (l_folk_text : K.lookup f_folk_text = some ⟨oc_folk_text, od_folk_text, .func (PySem.W.fnOf "folk_text" "folk_text" (defArgs (top 38)) (defBody (top 38)) (defScope (top 38)) .none kV_folk_text dc_folk_text pm_folk_text an_folk_text cd_folk_text ct_folk_text), sl_folk_text⟩) (c_folk_text : PySem.W.codeIn K cd_folk_text "folk_text" = true) (k_folk_text : PySem.W.keepIn K (.ref f_folk_text) = true)
    (a_read_folk : PySem.W.nsIn K mainGlobals "read_folk" = some (some (.ref f_read_folk))) (l_read_folk : K.lookup f_read_folk = some ⟨oc_read_folk, od_read_folk, .func (PySem.W.fnOf "read_folk" "read_folk" (defArgs (top 39)) (defBody (top 39)) (defScope (top 39)) .none kV_read_folk dc_read_folk pm_read_folk an_read_folk cd_read_folk ct_read_folk), sl_read_folk⟩) (c_read_folk : PySem.W.codeIn K cd_read_folk "read_folk" = true) (k_read_folk : PySem.W.keepIn K (.ref f_read_folk) = true)
    (a__law_mix : PySem.W.nsIn K mainGlobals "_law_mix" = some (some (.ref f__law_mix))) (l__law_mix : K.lookup f__law_mix = some ⟨oc__law_mix, od__law_mix, .func (PySem.W.fnOf "_law_mix" "_law_mix" (defArgs (top 41)) (defBody (top 41)) (defScope (top 41)) .none kV__law_mix dc__law_mix pm__law_mix an__law_mix cd__law_mix ct__law_mix), sl__law_mix⟩) (c__law_mix : PySem.W.codeIn K cd__law_mix "_law_mix" = true) (k__law_mix : PySem.W.keepIn K (.ref f__law_mix) = true)
    (a__law_left : PySem.W.nsIn K mainGlobals "_law_left" = some (some (.ref f__law_left))) (l__law_left : K.lookup f__law_left = some ⟨oc__law_left, od__law_left, .func (PySem.W.fnOf "_law_left" "_law_left" (defArgs (top 42)) (defBody (top 42)) (defScope (top 42)) .none kV__law_left dc__law_left pm__law_left an__law_left cd__law_left ct__law_left), sl__law_left⟩) (c__law_left : PySem.W.codeIn K cd__law_left "_law_left" = true) (k__law_left : PySem.W.keepIn K (.ref f__law_left) = true)
    (a__law_draw : PySem.W.nsIn K mainGlobals "_law_draw" = some (some (.ref f__law_draw))) (l__law_draw : K.lookup f__law_draw = some ⟨oc__law_draw, od__law_draw, .func (PySem.W.fnOf "_law_draw" "_law_draw" (defArgs (top 43)) (defBody (top 43)) (defScope (top 43)) .none kV__law_draw dc__law_draw pm__law_draw an__law_draw cd__law_draw ct__law_draw), sl__law_draw⟩) (c__law_draw : PySem.W.codeIn K cd__law_draw "_law_draw" = true) (k__law_draw : PySem.W.keepIn K (.ref f__law_draw) = true)
    (a__law_names : PySem.W.nsIn K mainGlobals "_law_names" = some (some (.ref f__law_names))) (l__law_names : K.lookup f__law_names = some ⟨oc__law_names, od__law_names, .func (PySem.W.fnOf "_law_names" "_law_names" (defArgs (top 44)) (defBody (top 44)) (defScope (top 44)) .none kV__law_names dc__law_names pm__law_names an__law_names cd__law_names ct__law_names), sl__law_names⟩) (c__law_names : PySem.W.codeIn K cd__law_names "_law_names" = true) (k__law_names : PySem.W.keepIn K (.ref f__law_names) = true)
    (a__law_shuffled : PySem.W.nsIn K mainGlobals "_law_shuffled" = some (some (.ref f__law_shuffled))) (l__law_shuffled : K.lookup f__law_shuffled = some ⟨oc__law_shuffled, od__law_shuffled, .func (PySem.W.fnOf "_law_shuffled" "_law_shuffled" (defArgs (top 45)) (defBody (top 45)) (defScope (top 45)) .none kV__law_shuffled dc__law_shuffled pm__law_shuffled an__law_shuffled cd__law_shuffled ct__law_shuffled), sl__law_shuffled⟩) (c__law_shuffled : PySem.W.codeIn K cd__law_shuffled "_law_shuffled" = true) (k__law_shuffled : PySem.W.keepIn K (.ref f__law_shuffled) = true)
    (a__law_tree : PySem.W.nsIn K mainGlobals "_law_tree" = some (some (.ref f__law_tree))) (l__law_tree : K.lookup f__law_tree = some ⟨oc__law_tree, od__law_tree, .func (PySem.W.fnOf "_law_tree" "_law_tree" (defArgs (top 46)) (defBody (top 46)) (defScope (top 46)) .none kV__law_tree dc__law_tree pm__law_tree an__law_tree cd__law_tree ct__law_tree), sl__law_tree⟩) (c__law_tree : PySem.W.codeIn K cd__law_tree "_law_tree" = true) (k__law_tree : PySem.W.keepIn K (.ref f__law_tree) = true)
    (a__law_falling : PySem.W.nsIn K mainGlobals "_law_falling" = some (some (.ref f__law_falling))) (l__law_falling : K.lookup f__law_falling = some ⟨oc__law_falling, od__law_falling, .func (PySem.W.fnOf "_law_falling" "_law_falling" (defArgs (top 47)) (defBody (top 47)) (defScope (top 47)) .none kV__law_falling dc__law_falling pm__law_falling an__law_falling cd__law_falling ct__law_falling), sl__law_falling⟩) (c__law_falling : PySem.W.codeIn K cd__law_falling "_law_falling" = true) (k__law_falling : PySem.W.keepIn K (.ref f__law_falling) = true)
    (a__law_folk : PySem.W.nsIn K mainGlobals "_law_folk" = some (some (.ref f__law_folk))) (l__law_folk : K.lookup f__law_folk = some ⟨oc__law_folk, od__law_folk, .func (PySem.W.fnOf "_law_folk" "_law_folk" (defArgs (top 48)) (defBody (top 48)) (defScope (top 48)) .none kV__law_folk dc__law_folk pm__law_folk an__law_folk cd__law_folk ct__law_folk), sl__law_folk⟩) (c__law_folk : PySem.W.codeIn K cd__law_folk "_law_folk" = true) (k__law_folk : PySem.W.keepIn K (.ref f__law_folk) = true)
    (a__law_marks : PySem.W.nsIn K mainGlobals "_law_marks" = some (some (.ref f__law_marks))) (l__law_marks : K.lookup f__law_marks = some ⟨oc__law_marks, od__law_marks, .func (PySem.W.fnOf "_law_marks" "_law_marks" (defArgs (top 49)) (defBody (top 49)) (defScope (top 49)) .none kV__law_marks dc__law_marks pm__law_marks an__law_marks cd__law_marks ct__law_marks), sl__law_marks⟩) (c__law_marks : PySem.W.codeIn K cd__law_marks "_law_marks" = true) (k__law_marks : PySem.W.keepIn K (.ref f__law_marks) = true)
    (a__law_copied : PySem.W.nsIn K mainGlobals "_law_copied" = some (some (.ref f__law_copied))) (l__law_copied : K.lookup f__law_copied = some ⟨oc__law_copied, od__law_copied, .func (PySem.W.fnOf "_law_copied" "_law_copied" (defArgs (top 50)) (defBody (top 50)) (defScope (top 50)) .none kV__law_copied dc__law_copied pm__law_copied an__law_copied cd__law_copied ct__law_copied), sl__law_copied⟩) (c__law_copied : PySem.W.codeIn K cd__law_copied "_law_copied" = true) (k__law_copied : PySem.W.keepIn K (.ref f__law_copied) = true)
    (a__law_emptied : PySem.W.nsIn K mainGlobals "_law_emptied" = some (some (.ref f__law_emptied))) (l__law_emptied : K.lookup f__law_emptied = some ⟨oc__law_emptied, od__law_emptied, .func (PySem.W.fnOf "_law_emptied" "_law_emptied" (defArgs (top 51)) (defBody (top 51)) (defScope (top 51)) .none kV__law_emptied dc__law_emptied pm__law_emptied an__law_emptied cd__law_emptied ct__law_emptied), sl__law_emptied⟩) (c__law_emptied : PySem.W.codeIn K cd__law_emptied "_law_emptied" = true) (k__law_emptied : PySem.W.keepIn K (.ref f__law_emptied) = true)
    (a__law_told : PySem.W.nsIn K mainGlobals "_law_told" = some (some (.ref f__law_told))) (l__law_told : K.lookup f__law_told = some ⟨oc__law_told, od__law_told, .func (PySem.W.fnOf "_law_told" "_law_told" (defArgs (top 52)) (defBody (top 52)) (defScope (top 52)) .none kV__law_told dc__law_told pm__law_told an__law_told cd__law_told ct__law_told), sl__law_told⟩) (c__law_told : PySem.W.codeIn K cd__law_told "_law_told" = true) (k__law_told : PySem.W.keepIn K (.ref f__law_told) = true)
    (a__law_word : PySem.W.nsIn K mainGlobals "_law_word" = some (some (.ref f__law_word))) (l__law_word : K.lookup f__law_word = some ⟨oc__law_word, od__law_word, .func (PySem.W.fnOf "_law_word" "_law_word" (defArgs (top 53)) (defBody (top 53)) (defScope (top 53)) .none kV__law_word dc__law_word pm__law_word an__law_word cd__law_word ct__law_word), sl__law_word⟩) (c__law_word : PySem.W.codeIn K cd__law_word "_law_word" = true) (k__law_word : PySem.W.keepIn K (.ref f__law_word) = true)
    (a__law_great : PySem.W.nsIn K mainGlobals "_law_great" = some (some (.ref f__law_great))) (l__law_great : K.lookup f__law_great = some ⟨oc__law_great, od__law_great, .func (PySem.W.fnOf "_law_great" "_law_great" (defArgs (top 54)) (defBody (top 54)) (defScope (top 54)) .none kV__law_great dc__law_great pm__law_great an__law_great cd__law_great ct__law_great), sl__law_great⟩) (c__law_great : PySem.W.codeIn K cd__law_great "_law_great" = true) (k__law_great : PySem.W.keepIn K (.ref f__law_great) = true)
    (a_law : PySem.W.nsIn K mainGlobals "law" = some (some (.ref f_law))) (l_law : K.lookup f_law = some ⟨oc_law, od_law, .func (PySem.W.fnOf "law" "law" (defArgs (top 55)) (defBody (top 55)) (defScope (top 55)) .none kV_law dc_law pm_law an_law cd_law ct_law), sl_law⟩) (c_law : PySem.W.codeIn K cd_law "law" = true) (k_law : PySem.W.keepIn K (.ref f_law) = true)
    (z_isinstance : PySem.W.nsIn K mainGlobals "isinstance" = some none)
    (z_int : PySem.W.nsIn K mainGlobals "int" = some none)
    (z_bool : PySem.W.nsIn K mainGlobals "bool" = some none)
    (z_len : PySem.W.nsIn K mainGlobals "len" = some none)
    (z_list : PySem.W.nsIn K mainGlobals "list" = some none)
    (z_all : PySem.W.nsIn K mainGlobals "all" = some none)
    (z_set : PySem.W.nsIn K mainGlobals "set" = some none)
    (z_sorted : PySem.W.nsIn K mainGlobals "sorted" = some none)
    (z_str : PySem.W.nsIn K mainGlobals "str" = some none)
    (z_enumerate : PySem.W.nsIn K mainGlobals "enumerate" = some none)
    (z_range : PySem.W.nsIn K mainGlobals "range" = some none)
    (z_min : PySem.W.nsIn K mainGlobals "min" = some none)
    (z_max : PySem.W.nsIn K mainGlobals "max" = some none)
    (z_ValueError : PySem.W.nsIn K mainGlobals "ValueError" = some none)
    (z_zip : PySem.W.nsIn K mainGlobals "zip" = some none)
    (z_tuple : PySem.W.nsIn K mainGlobals "tuple" = some none)
    (g_MOST_NAMES : PySem.W.nsIn K mainGlobals "MOST_NAMES" = some (some (.int 10 t_MOST_NAMES)))
    (g_MOST_HANDS : PySem.W.nsIn K mainGlobals "MOST_HANDS" = some (some (.int 20 t_MOST_HANDS)))
    (g_MOST_FIGURES : PySem.W.nsIn K mainGlobals "MOST_FIGURES" = some (some (.int 30 t_MOST_FIGURES)))
    (g_FIGURES : PySem.W.nsIn K mainGlobals "FIGURES" = some (some (.str "0123456789" t_FIGURES)))
    (ca_NoFolk : PySem.W.nsIn K mainGlobals "NoFolk" = some (some (.ref C_NoFolk)))
    (cb_NoFolk : PySem.W.subIn K (.ref C_NoFolk) (.type "BaseException") = some true)
    (ct_NoFolk : PySem.W.typeIn K (.ref C_NoFolk) = some (.type "type"))
    (cd_NoFolk : PySem.W.hasDictIn K C_NoFolk = true)
    (ca_NoRanking : PySem.W.nsIn K mainGlobals "NoRanking" = some (some (.ref C_NoRanking)))
    (cb_NoRanking : PySem.W.subIn K (.ref C_NoRanking) (.type "BaseException") = some true)
    (ct_NoRanking : PySem.W.typeIn K (.ref C_NoRanking) = some (.type "type"))
    (cd_NoRanking : PySem.W.hasDictIn K C_NoRanking = true)
    (ca_FolkError : PySem.W.nsIn K mainGlobals "FolkError" = some (some (.ref C_FolkError)))
    (cb_FolkError : PySem.W.subIn K (.ref C_FolkError) (.type "BaseException") = some true)
    (ct_FolkError : PySem.W.typeIn K (.ref C_FolkError) = some (.type "type"))
    (cd_FolkError : PySem.W.hasDictIn K C_FolkError = true)
    (cx_NoFolk : PySem.W.excIn K C_NoFolk [.type "ValueError", .type "Exception", .type "BaseException", .type "object"] "ValueError.__new__" = true)
    (ck_NoFolk : PySem.W.keepIn K (.ref C_NoFolk) = true)
    (cv_NoFolk : PySem.W.subIn K (.ref C_NoFolk) (.type "ValueError") = some true)
    (cg_NoFolk : PySem.W.findIn K (.ref C_NoFolk) "__getattribute__" = some (some (.builtin "BaseException.__getattribute__")))
    (ch_NoFolk : PySem.W.findIn K (.ref C_NoFolk) "__getattr__" = some none)
    (cc_NoFolk : PySem.W.findIn K (.ref C_NoFolk) "__class__" = some (some (.builtin "object.__class__")))
    (cm_NoFolk : PySem.W.mroIn K C_NoFolk (.type "object") = some true)
    (cf_NoFolk : PySem.W.subIn K (.ref C_NoFolk) (.ref C_FolkError) = some true)
    (cp_NoFolk_NoFolk : PySem.W.subIn K (.ref C_NoFolk) (.ref C_NoFolk) = some true)
    (cp_NoFolk_NoRanking : PySem.W.subIn K (.ref C_NoFolk) (.ref C_NoRanking) = some false)
    (cx_NoRanking : PySem.W.excIn K C_NoRanking [.type "ValueError", .type "Exception", .type "BaseException", .type "object"] "ValueError.__new__" = true)
    (ck_NoRanking : PySem.W.keepIn K (.ref C_NoRanking) = true)
    (cv_NoRanking : PySem.W.subIn K (.ref C_NoRanking) (.type "ValueError") = some true)
    (cg_NoRanking : PySem.W.findIn K (.ref C_NoRanking) "__getattribute__" = some (some (.builtin "BaseException.__getattribute__")))
    (ch_NoRanking : PySem.W.findIn K (.ref C_NoRanking) "__getattr__" = some none)
    (cc_NoRanking : PySem.W.findIn K (.ref C_NoRanking) "__class__" = some (some (.builtin "object.__class__")))
    (cm_NoRanking : PySem.W.mroIn K C_NoRanking (.type "object") = some true)
    (cf_NoRanking : PySem.W.subIn K (.ref C_NoRanking) (.ref C_FolkError) = some true)
    (cp_NoRanking_NoFolk : PySem.W.subIn K (.ref C_NoRanking) (.ref C_NoFolk) = some false)
    (cp_NoRanking_NoRanking : PySem.W.subIn K (.ref C_NoRanking) (.ref C_NoRanking) = some true)
    (ca_NoBack : PySem.W.nsIn K mainGlobals "NoBack" = some (some (.ref C_NoBack)))
    (ct_NoBack : PySem.W.typeIn K (.ref C_NoBack) = some (.type "type"))
    (cd_NoBack : PySem.W.hasDictIn K C_NoBack = true)
    (cp_NoFolk_NoBack : PySem.W.subIn K (.ref C_NoFolk) (.ref C_NoBack) = some false)
    (cp_NoRanking_NoBack : PySem.W.subIn K (.ref C_NoRanking) (.ref C_NoBack) = some false)
    (ca_NoFall : PySem.W.nsIn K mainGlobals "NoFall" = some (some (.ref C_NoFall)))
    (ct_NoFall : PySem.W.typeIn K (.ref C_NoFall) = some (.type "type"))
    (cd_NoFall : PySem.W.hasDictIn K C_NoFall = true)
    (cp_NoFolk_NoFall : PySem.W.subIn K (.ref C_NoFolk) (.ref C_NoFall) = some false)
    (cp_NoRanking_NoFall : PySem.W.subIn K (.ref C_NoRanking) (.ref C_NoFall) = some false)
    (ca_NoFit : PySem.W.nsIn K mainGlobals "NoFit" = some (some (.ref C_NoFit)))
    (ct_NoFit : PySem.W.typeIn K (.ref C_NoFit) = some (.type "type"))
    (cd_NoFit : PySem.W.hasDictIn K C_NoFit = true)
    (cp_NoFolk_NoFit : PySem.W.subIn K (.ref C_NoFolk) (.ref C_NoFit) = some false)
    (cp_NoRanking_NoFit : PySem.W.subIn K (.ref C_NoRanking) (.ref C_NoFit) = some false)
    (ca_NoFixed : PySem.W.nsIn K mainGlobals "NoFixed" = some (some (.ref C_NoFixed)))
    (ct_NoFixed : PySem.W.typeIn K (.ref C_NoFixed) = some (.type "type"))
    (cd_NoFixed : PySem.W.hasDictIn K C_NoFixed = true)
    (cp_NoFolk_NoFixed : PySem.W.subIn K (.ref C_NoFolk) (.ref C_NoFixed) = some false)
    (cp_NoRanking_NoFixed : PySem.W.subIn K (.ref C_NoRanking) (.ref C_NoFixed) = some false)
    (ca_NoHand : PySem.W.nsIn K mainGlobals "NoHand" = some (some (.ref C_NoHand)))
    (ct_NoHand : PySem.W.typeIn K (.ref C_NoHand) = some (.type "type"))
    (cd_NoHand : PySem.W.hasDictIn K C_NoHand = true)
    (cp_NoFolk_NoHand : PySem.W.subIn K (.ref C_NoFolk) (.ref C_NoHand) = some false)
    (cp_NoRanking_NoHand : PySem.W.subIn K (.ref C_NoRanking) (.ref C_NoHand) = some false)
    (ca_NoLine : PySem.W.nsIn K mainGlobals "NoLine" = some (some (.ref C_NoLine)))
    (ct_NoLine : PySem.W.typeIn K (.ref C_NoLine) = some (.type "type"))
    (cd_NoLine : PySem.W.hasDictIn K C_NoLine = true)
    (cp_NoFolk_NoLine : PySem.W.subIn K (.ref C_NoFolk) (.ref C_NoLine) = some false)
    (cp_NoRanking_NoLine : PySem.W.subIn K (.ref C_NoRanking) (.ref C_NoLine) = some false)
    (ca_NoNames : PySem.W.nsIn K mainGlobals "NoNames" = some (some (.ref C_NoNames)))
    (ct_NoNames : PySem.W.typeIn K (.ref C_NoNames) = some (.type "type"))
    (cd_NoNames : PySem.W.hasDictIn K C_NoNames = true)
    (cp_NoFolk_NoNames : PySem.W.subIn K (.ref C_NoFolk) (.ref C_NoNames) = some false)
    (cp_NoRanking_NoNames : PySem.W.subIn K (.ref C_NoRanking) (.ref C_NoNames) = some false)
    (ca_NoNumber : PySem.W.nsIn K mainGlobals "NoNumber" = some (some (.ref C_NoNumber)))
    (ct_NoNumber : PySem.W.typeIn K (.ref C_NoNumber) = some (.type "type"))
    (cd_NoNumber : PySem.W.hasDictIn K C_NoNumber = true)
    (cp_NoFolk_NoNumber : PySem.W.subIn K (.ref C_NoFolk) (.ref C_NoNumber) = some false)
    (cp_NoRanking_NoNumber : PySem.W.subIn K (.ref C_NoRanking) (.ref C_NoNumber) = some false)
    (ca_NoPaper : PySem.W.nsIn K mainGlobals "NoPaper" = some (some (.ref C_NoPaper)))
    (ct_NoPaper : PySem.W.typeIn K (.ref C_NoPaper) = some (.type "type"))
    (cd_NoPaper : PySem.W.hasDictIn K C_NoPaper = true)
    (cp_NoFolk_NoPaper : PySem.W.subIn K (.ref C_NoFolk) (.ref C_NoPaper) = some false)
    (cp_NoRanking_NoPaper : PySem.W.subIn K (.ref C_NoRanking) (.ref C_NoPaper) = some false)
    (ca_NoRow : PySem.W.nsIn K mainGlobals "NoRow" = some (some (.ref C_NoRow)))
    (ct_NoRow : PySem.W.typeIn K (.ref C_NoRow) = some (.type "type"))
    (cd_NoRow : PySem.W.hasDictIn K C_NoRow = true)
    (cp_NoFolk_NoRow : PySem.W.subIn K (.ref C_NoFolk) (.ref C_NoRow) = some false)
    (cp_NoRanking_NoRow : PySem.W.subIn K (.ref C_NoRanking) (.ref C_NoRow) = some false)
    (ca_NoRule : PySem.W.nsIn K mainGlobals "NoRule" = some (some (.ref C_NoRule)))
    (ct_NoRule : PySem.W.typeIn K (.ref C_NoRule) = some (.type "type"))
    (cd_NoRule : PySem.W.hasDictIn K C_NoRule = true)
    (cp_NoFolk_NoRule : PySem.W.subIn K (.ref C_NoFolk) (.ref C_NoRule) = some false)
    (cp_NoRanking_NoRule : PySem.W.subIn K (.ref C_NoRanking) (.ref C_NoRule) = some false)
    (ca_NoText : PySem.W.nsIn K mainGlobals "NoText" = some (some (.ref C_NoText)))
    (ct_NoText : PySem.W.typeIn K (.ref C_NoText) = some (.type "type"))
    (cd_NoText : PySem.W.hasDictIn K C_NoText = true)
    (cp_NoFolk_NoText : PySem.W.subIn K (.ref C_NoFolk) (.ref C_NoText) = some false)
    (cp_NoRanking_NoText : PySem.W.subIn K (.ref C_NoRanking) (.ref C_NoText) = some false)
    (ca_NoTitle : PySem.W.nsIn K mainGlobals "NoTitle" = some (some (.ref C_NoTitle)))
    (ct_NoTitle : PySem.W.typeIn K (.ref C_NoTitle) = some (.type "type"))
    (cd_NoTitle : PySem.W.hasDictIn K C_NoTitle = true)
    (cp_NoFolk_NoTitle : PySem.W.subIn K (.ref C_NoFolk) (.ref C_NoTitle) = some false)
    (cp_NoRanking_NoTitle : PySem.W.subIn K (.ref C_NoRanking) (.ref C_NoTitle) = some false)
    (ca_NoTops : PySem.W.nsIn K mainGlobals "NoTops" = some (some (.ref C_NoTops)))
    (ct_NoTops : PySem.W.typeIn K (.ref C_NoTops) = some (.type "type"))
    (cd_NoTops : PySem.W.hasDictIn K C_NoTops = true)
    (cp_NoFolk_NoTops : PySem.W.subIn K (.ref C_NoFolk) (.ref C_NoTops) = some false)
    (cp_NoRanking_NoTops : PySem.W.subIn K (.ref C_NoRanking) (.ref C_NoTops) = some false)
    (ca_NoTree : PySem.W.nsIn K mainGlobals "NoTree" = some (some (.ref C_NoTree)))
    (ct_NoTree : PySem.W.typeIn K (.ref C_NoTree) = some (.type "type"))
    (cd_NoTree : PySem.W.hasDictIn K C_NoTree = true)
    (cp_NoFolk_NoTree : PySem.W.subIn K (.ref C_NoFolk) (.ref C_NoTree) = some false)
    (cp_NoRanking_NoTree : PySem.W.subIn K (.ref C_NoRanking) (.ref C_NoTree) = some false)
    (ca_NoWeights : PySem.W.nsIn K mainGlobals "NoWeights" = some (some (.ref C_NoWeights)))
    (ct_NoWeights : PySem.W.typeIn K (.ref C_NoWeights) = some (.type "type"))
    (cd_NoWeights : PySem.W.hasDictIn K C_NoWeights = true)
    (cp_NoFolk_NoWeights : PySem.W.subIn K (.ref C_NoFolk) (.ref C_NoWeights) = some false)
    (cp_NoRanking_NoWeights : PySem.W.subIn K (.ref C_NoRanking) (.ref C_NoWeights) = some false)
    (ca_TooGreat : PySem.W.nsIn K mainGlobals "TooGreat" = some (some (.ref C_TooGreat)))
    (ct_TooGreat : PySem.W.typeIn K (.ref C_TooGreat) = some (.type "type"))
    (cd_TooGreat : PySem.W.hasDictIn K C_TooGreat = true)
    (cp_NoFolk_TooGreat : PySem.W.subIn K (.ref C_NoFolk) (.ref C_TooGreat) = some false)
    (cp_NoRanking_TooGreat : PySem.W.subIn K (.ref C_NoRanking) (.ref C_TooGreat) = some false)
    (c0_s : PySem.W.specialIn K (.builtin "object.__class__") "__get__" = some (some (.builtin "getset_descriptor.__get__")))
    (c0_t : PySem.W.takesIn K (.builtin "object.__class__") = some true) :
    ∃ fd : FuncData, (∀ (s : Shared) (v : Value), BindsTo s fd ⟨[v], []⟩ [("_law_script", v)]) ∧ ∀ base : Heap, K.In base → base.Ns mainGlobals mg → FnG P w K mg base (L2.CX P w) 9 fa fd ["_law_script"] (spLaw K) := by
  have E_NoFolk : ExF K mg "NoFolk" := ex_mk X G ca_NoFolk cx_NoFolk ck_NoFolk cb_NoFolk ct_NoFolk cv_NoFolk cd_NoFolk cg_NoFolk ch_NoFolk cc_NoFolk cm_NoFolk c0_s c0_t
  have E_NoRanking : ExF K mg "NoRanking" := ex_mk X G ca_NoRanking cx_NoRanking ck_NoRanking cb_NoRanking ct_NoRanking cv_NoRanking cd_NoRanking cg_NoRanking ch_NoRanking cc_NoRanking cm_NoRanking c0_s c0_t
  have T : Txt K mg :=
    { b_isinstance := PySem.W.mg_none_of X G z_isinstance
      b_int := PySem.W.mg_none_of X G z_int
      b_bool := PySem.W.mg_none_of X G z_bool
      b_len := PySem.W.mg_none_of X G z_len
      b_list := PySem.W.mg_none_of X G z_list
      b_all := PySem.W.mg_none_of X G z_all
      b_set := PySem.W.mg_none_of X G z_set
      b_sorted := PySem.W.mg_none_of X G z_sorted
      b_str := PySem.W.mg_none_of X G z_str
      b_enumerate := PySem.W.mg_none_of X G z_enumerate
      b_range := PySem.W.mg_none_of X G z_range
      b_min := PySem.W.mg_none_of X G z_min
      b_max := PySem.W.mg_none_of X G z_max
      b_ValueError := PySem.W.mg_none_of X G z_ValueError
      b_zip := PySem.W.mg_none_of X G z_zip
      b_tuple := PySem.W.mg_none_of X G z_tuple
      c_MOST_NAMES := ⟨_, PySem.W.mg_of X G g_MOST_NAMES⟩
      c_MOST_HANDS := ⟨_, PySem.W.mg_of X G g_MOST_HANDS⟩
      c_MOST_FIGURES := ⟨_, PySem.W.mg_of X G g_MOST_FIGURES⟩
      c_FIGURES := ⟨_, PySem.W.mg_of X G g_FIGURES⟩
      exc := ⟨by intro n hn; simp only [List.mem_cons, List.not_mem_nil, or_false] at hn; rcases hn with rfl | rfl; exact E_NoFolk; exact E_NoRanking, by intro n hn; simp only [List.mem_cons, List.not_mem_nil, or_false] at hn; rcases hn with rfl | rfl; exact top_mk ca_NoFolk ca_FolkError cb_FolkError cd_FolkError ct_FolkError cf_NoFolk; exact top_mk ca_NoRanking ca_FolkError cb_FolkError cd_FolkError ct_FolkError cf_NoRanking, by intro n hn; simp only [List.mem_cons, List.not_mem_nil, or_false] at hn; rcases hn with rfl | rfl; (intro m hm; simp only [List.mem_cons, List.not_mem_nil, or_false] at hm; rcases hm with rfl | rfl; exact two_eq; exact two_mk ca_NoFolk ca_NoRanking cp_NoFolk_NoRanking cp_NoFolk_NoFolk cd_NoRanking ct_NoRanking (by decide)); (intro m hm; simp only [List.mem_cons, List.not_mem_nil, or_false] at hm; rcases hm with rfl | rfl; exact two_mk ca_NoRanking ca_NoFolk cp_NoRanking_NoFolk cp_NoRanking_NoRanking cd_NoFolk ct_NoFolk (by decide); exact two_eq), mgF_mk X G ca_FolkError⟩
      exy_NoBack := ⟨gY_mk X G ca_NoBack, by intro n hn; simp only [List.mem_cons, List.not_mem_nil, or_false] at hn; rcases hn with rfl | rfl; exact two2_mk ca_NoFolk ca_NoBack cp_NoFolk_NoBack cp_NoFolk_NoFolk cd_NoBack ct_NoBack; exact two2_mk ca_NoRanking ca_NoBack cp_NoRanking_NoBack cp_NoRanking_NoRanking cd_NoBack ct_NoBack⟩
      exy_NoFall := ⟨gY_mk X G ca_NoFall, by intro n hn; simp only [List.mem_cons, List.not_mem_nil, or_false] at hn; rcases hn with rfl | rfl; exact two2_mk ca_NoFolk ca_NoFall cp_NoFolk_NoFall cp_NoFolk_NoFolk cd_NoFall ct_NoFall; exact two2_mk ca_NoRanking ca_NoFall cp_NoRanking_NoFall cp_NoRanking_NoRanking cd_NoFall ct_NoFall⟩
      exy_NoFit := ⟨gY_mk X G ca_NoFit, by intro n hn; simp only [List.mem_cons, List.not_mem_nil, or_false] at hn; rcases hn with rfl | rfl; exact two2_mk ca_NoFolk ca_NoFit cp_NoFolk_NoFit cp_NoFolk_NoFolk cd_NoFit ct_NoFit; exact two2_mk ca_NoRanking ca_NoFit cp_NoRanking_NoFit cp_NoRanking_NoRanking cd_NoFit ct_NoFit⟩
      exy_NoFixed := ⟨gY_mk X G ca_NoFixed, by intro n hn; simp only [List.mem_cons, List.not_mem_nil, or_false] at hn; rcases hn with rfl | rfl; exact two2_mk ca_NoFolk ca_NoFixed cp_NoFolk_NoFixed cp_NoFolk_NoFolk cd_NoFixed ct_NoFixed; exact two2_mk ca_NoRanking ca_NoFixed cp_NoRanking_NoFixed cp_NoRanking_NoRanking cd_NoFixed ct_NoFixed⟩
      exy_NoHand := ⟨gY_mk X G ca_NoHand, by intro n hn; simp only [List.mem_cons, List.not_mem_nil, or_false] at hn; rcases hn with rfl | rfl; exact two2_mk ca_NoFolk ca_NoHand cp_NoFolk_NoHand cp_NoFolk_NoFolk cd_NoHand ct_NoHand; exact two2_mk ca_NoRanking ca_NoHand cp_NoRanking_NoHand cp_NoRanking_NoRanking cd_NoHand ct_NoHand⟩
      exy_NoLine := ⟨gY_mk X G ca_NoLine, by intro n hn; simp only [List.mem_cons, List.not_mem_nil, or_false] at hn; rcases hn with rfl | rfl; exact two2_mk ca_NoFolk ca_NoLine cp_NoFolk_NoLine cp_NoFolk_NoFolk cd_NoLine ct_NoLine; exact two2_mk ca_NoRanking ca_NoLine cp_NoRanking_NoLine cp_NoRanking_NoRanking cd_NoLine ct_NoLine⟩
      exy_NoNames := ⟨gY_mk X G ca_NoNames, by intro n hn; simp only [List.mem_cons, List.not_mem_nil, or_false] at hn; rcases hn with rfl | rfl; exact two2_mk ca_NoFolk ca_NoNames cp_NoFolk_NoNames cp_NoFolk_NoFolk cd_NoNames ct_NoNames; exact two2_mk ca_NoRanking ca_NoNames cp_NoRanking_NoNames cp_NoRanking_NoRanking cd_NoNames ct_NoNames⟩
      exy_NoNumber := ⟨gY_mk X G ca_NoNumber, by intro n hn; simp only [List.mem_cons, List.not_mem_nil, or_false] at hn; rcases hn with rfl | rfl; exact two2_mk ca_NoFolk ca_NoNumber cp_NoFolk_NoNumber cp_NoFolk_NoFolk cd_NoNumber ct_NoNumber; exact two2_mk ca_NoRanking ca_NoNumber cp_NoRanking_NoNumber cp_NoRanking_NoRanking cd_NoNumber ct_NoNumber⟩
      exy_NoPaper := ⟨gY_mk X G ca_NoPaper, by intro n hn; simp only [List.mem_cons, List.not_mem_nil, or_false] at hn; rcases hn with rfl | rfl; exact two2_mk ca_NoFolk ca_NoPaper cp_NoFolk_NoPaper cp_NoFolk_NoFolk cd_NoPaper ct_NoPaper; exact two2_mk ca_NoRanking ca_NoPaper cp_NoRanking_NoPaper cp_NoRanking_NoRanking cd_NoPaper ct_NoPaper⟩
      exy_NoRow := ⟨gY_mk X G ca_NoRow, by intro n hn; simp only [List.mem_cons, List.not_mem_nil, or_false] at hn; rcases hn with rfl | rfl; exact two2_mk ca_NoFolk ca_NoRow cp_NoFolk_NoRow cp_NoFolk_NoFolk cd_NoRow ct_NoRow; exact two2_mk ca_NoRanking ca_NoRow cp_NoRanking_NoRow cp_NoRanking_NoRanking cd_NoRow ct_NoRow⟩
      exy_NoRule := ⟨gY_mk X G ca_NoRule, by intro n hn; simp only [List.mem_cons, List.not_mem_nil, or_false] at hn; rcases hn with rfl | rfl; exact two2_mk ca_NoFolk ca_NoRule cp_NoFolk_NoRule cp_NoFolk_NoFolk cd_NoRule ct_NoRule; exact two2_mk ca_NoRanking ca_NoRule cp_NoRanking_NoRule cp_NoRanking_NoRanking cd_NoRule ct_NoRule⟩
      exy_NoText := ⟨gY_mk X G ca_NoText, by intro n hn; simp only [List.mem_cons, List.not_mem_nil, or_false] at hn; rcases hn with rfl | rfl; exact two2_mk ca_NoFolk ca_NoText cp_NoFolk_NoText cp_NoFolk_NoFolk cd_NoText ct_NoText; exact two2_mk ca_NoRanking ca_NoText cp_NoRanking_NoText cp_NoRanking_NoRanking cd_NoText ct_NoText⟩
      exy_NoTitle := ⟨gY_mk X G ca_NoTitle, by intro n hn; simp only [List.mem_cons, List.not_mem_nil, or_false] at hn; rcases hn with rfl | rfl; exact two2_mk ca_NoFolk ca_NoTitle cp_NoFolk_NoTitle cp_NoFolk_NoFolk cd_NoTitle ct_NoTitle; exact two2_mk ca_NoRanking ca_NoTitle cp_NoRanking_NoTitle cp_NoRanking_NoRanking cd_NoTitle ct_NoTitle⟩
      exy_NoTops := ⟨gY_mk X G ca_NoTops, by intro n hn; simp only [List.mem_cons, List.not_mem_nil, or_false] at hn; rcases hn with rfl | rfl; exact two2_mk ca_NoFolk ca_NoTops cp_NoFolk_NoTops cp_NoFolk_NoFolk cd_NoTops ct_NoTops; exact two2_mk ca_NoRanking ca_NoTops cp_NoRanking_NoTops cp_NoRanking_NoRanking cd_NoTops ct_NoTops⟩
      exy_NoTree := ⟨gY_mk X G ca_NoTree, by intro n hn; simp only [List.mem_cons, List.not_mem_nil, or_false] at hn; rcases hn with rfl | rfl; exact two2_mk ca_NoFolk ca_NoTree cp_NoFolk_NoTree cp_NoFolk_NoFolk cd_NoTree ct_NoTree; exact two2_mk ca_NoRanking ca_NoTree cp_NoRanking_NoTree cp_NoRanking_NoRanking cd_NoTree ct_NoTree⟩
      exy_NoWeights := ⟨gY_mk X G ca_NoWeights, by intro n hn; simp only [List.mem_cons, List.not_mem_nil, or_false] at hn; rcases hn with rfl | rfl; exact two2_mk ca_NoFolk ca_NoWeights cp_NoFolk_NoWeights cp_NoFolk_NoFolk cd_NoWeights ct_NoWeights; exact two2_mk ca_NoRanking ca_NoWeights cp_NoRanking_NoWeights cp_NoRanking_NoRanking cd_NoWeights ct_NoWeights⟩
      exy_TooGreat := ⟨gY_mk X G ca_TooGreat, by intro n hn; simp only [List.mem_cons, List.not_mem_nil, or_false] at hn; rcases hn with rfl | rfl; exact two2_mk ca_NoFolk ca_TooGreat cp_NoFolk_TooGreat cp_NoFolk_NoFolk cd_TooGreat ct_TooGreat; exact two2_mk ca_NoRanking ca_TooGreat cp_NoRanking_TooGreat cp_NoRanking_NoRanking cd_TooGreat ct_TooGreat⟩
      d_is_number := wr_mk X G a_is_number l_is_number c_is_number k_is_number fun _ _ _ _ _ _ us hl => match us, hl with | [_], _ => rfl
      d_are_unlike_names := wr_mk X G a_are_unlike_names l_are_unlike_names c_are_unlike_names k_are_unlike_names fun _ _ _ _ _ _ us hl => match us, hl with | [_], _ => rfl
      d_is_ranking := wr_mk X G a_is_ranking l_is_ranking c_is_ranking k_is_ranking fun _ _ _ _ _ _ us hl => match us, hl with | [_], _ => rfl
      d_is_folk := wr_mk X G a_is_folk l_is_folk c_is_folk k_is_folk fun _ _ _ _ _ _ us hl => match us, hl with | [_], _ => rfl
      d_must_be_ranking := wr_mk X G a_must_be_ranking l_must_be_ranking c_must_be_ranking k_must_be_ranking fun _ _ _ _ _ _ us hl => match us, hl with | [_], _ => rfl
      d_must_be_folk := wr_mk X G a_must_be_folk l_must_be_folk c_must_be_folk k_must_be_folk fun _ _ _ _ _ _ us hl => match us, hl with | [_], _ => rfl
      d_number_of := wr_mk X G a_number_of l_number_of c_number_of k_number_of fun _ _ _ _ _ _ us hl => match us, hl with | [_], _ => rfl
      d_ranking_of := wr_mk X G a_ranking_of l_ranking_of c_ranking_of k_ranking_of fun _ _ _ _ _ _ us hl => match us, hl with | [_], _ => rfl
      d_in_one := wr_mk X G a_in_one l_in_one c_in_one k_in_one fun _ _ _ _ _ _ us hl => match us, hl with | [_], _ => rfl
      d_ranking_text := wr_mk X G a_ranking_text l_ranking_text c_ranking_text k_ranking_text fun _ _ _ _ _ _ us hl => match us, hl with | [_], _ => rfl
      d_read_ranking := wr_mk X G a_read_ranking l_read_ranking c_read_ranking k_read_ranking fun _ _ _ _ _ _ us hl => match us, hl with | [_], _ => rfl
      d_folk_text := wr_mk X G a_folk_text l_folk_text c_folk_text k_folk_text fun _ _ _ _ _ _ us hl => match us, hl with | [_], _ => rfl
      d_read_folk := wr_mk X G a_read_folk l_read_folk c_read_folk k_read_folk fun _ _ _ _ _ _ us hl => match us, hl with | [_], _ => rfl
      d__law_mix := wr_mk X G a__law_mix l__law_mix c__law_mix k__law_mix fun _ _ _ _ _ _ us hl => match us, hl with | [_, _], _ => rfl
      d__law_left := wr_mk X G a__law_left l__law_left c__law_left k__law_left fun _ _ _ _ _ _ us hl => match us, hl with | [_], _ => rfl
      d__law_draw := wr_mk X G a__law_draw l__law_draw c__law_draw k__law_draw fun _ _ _ _ _ _ us hl => match us, hl with | [_, _], _ => rfl
      d__law_names := wr_mk X G a__law_names l__law_names c__law_names k__law_names fun _ _ _ _ _ _ us hl => match us, hl with | [_, _], _ => rfl
      d__law_shuffled := wr_mk X G a__law_shuffled l__law_shuffled c__law_shuffled k__law_shuffled fun _ _ _ _ _ _ us hl => match us, hl with | [_, _], _ => rfl
      d__law_tree := wr_mk X G a__law_tree l__law_tree c__law_tree k__law_tree fun _ _ _ _ _ _ us hl => match us, hl with | [_, _], _ => rfl
      d__law_falling := wr_mk X G a__law_falling l__law_falling c__law_falling k__law_falling fun _ _ _ _ _ _ us hl => match us, hl with | [_, _, _], _ => rfl
      d__law_folk := wr_mk X G a__law_folk l__law_folk c__law_folk k__law_folk fun _ _ _ _ _ _ us hl => match us, hl with | [_, _, _], _ => rfl
      d__law_marks := wr_mk X G a__law_marks l__law_marks c__law_marks k__law_marks fun _ _ _ _ _ _ us hl => match us, hl with | [_], _ => rfl
      d__law_copied := wr_mk X G a__law_copied l__law_copied c__law_copied k__law_copied fun _ _ _ _ _ _ us hl => match us, hl with | [_], _ => rfl
      d__law_emptied := wr_mk X G a__law_emptied l__law_emptied c__law_emptied k__law_emptied fun _ _ _ _ _ _ us hl => match us, hl with | [_], _ => rfl
      d__law_told := wr_mk X G a__law_told l__law_told c__law_told k__law_told fun _ _ _ _ _ _ us hl => match us, hl with | [_, _], _ => rfl
      d__law_word := wr_mk X G a__law_word l__law_word c__law_word k__law_word fun _ _ _ _ _ _ us hl => match us, hl with | [_], _ => rfl
      d__law_great := wr_mk X G a__law_great l__law_great c__law_great k__law_great fun _ _ _ _ _ _ us hl => match us, hl with | [_, _], _ => rfl }
  have e := hfa.symm.trans (PySem.W.mg_of X G a_law)
  cases e
  refine ⟨PySem.W.fnOf "law" "law" (defArgs (top 55)) (defBody (top 55)) (defScope (top 55)) .none kV_law dc_law pm_law an_law cd_law ct_law, fun s v => .of_eq rfl, fun base _ _ => ?_⟩
  let cl : String → Addr := clOf K
  have q_is_number := w_is_number (P := P) (w := w) (base := base) T   
  have q_are_unlike_names := w_are_unlike_names (P := P) (w := w) (base := base) T q_is_number  
  have q_is_ranking := w_is_ranking (P := P) (w := w) (base := base) T q_are_unlike_names  
  have q_is_folk := w_is_folk (P := P) (w := w) (base := base) T q_is_ranking  
  have q_must_be_ranking := w_must_be_ranking (P := P) (w := w) (base := base) T q_is_ranking  
  have q_must_be_folk := w_must_be_folk (P := P) (w := w) (base := base) T q_is_folk  
  have q_number_of := w_number_of (P := P) (w := w) (base := base) T   
  have q_ranking_of := w_ranking_of (P := P) (w := w) (base := base) T q_is_ranking q_number_of  
  have q_in_one := w_in_one (P := P) (w := w) (base := base) T   
  have q_ranking_text := w_ranking_text (P := P) (w := w) (base := base) T q_must_be_ranking q_in_one  
  have q_read_ranking := w_read_ranking (P := P) (w := w) (base := base) T q_ranking_of  
  have q_folk_text := w_folk_text (P := P) (w := w) (base := base) T q_must_be_folk q_in_one  
  have q_read_folk := w_read_folk (P := P) (w := w) (base := base) T q_ranking_of  
  have q__law_mix := w__law_mix (P := P) (w := w) (base := base) T   
  have q__law_left := w__law_left (P := P) (w := w) (base := base) T   
  have q__law_draw := w__law_draw (P := P) (w := w) (base := base) T q__law_mix  
  have q__law_names := w__law_names (P := P) (w := w) (base := base) T q__law_draw  
  have q__law_shuffled := w__law_shuffled (P := P) (w := w) (base := base) T q__law_draw  
  have q__law_tree := w__law_tree (P := P) (w := w) (base := base) T q__law_draw q__law_shuffled  
  have q__law_falling := w__law_falling (P := P) (w := w) (base := base) T q__law_draw  
  have q__law_folk := w__law_folk (P := P) (w := w) (base := base) T q__law_draw q__law_shuffled q__law_falling  
  have q__law_marks := w__law_marks (P := P) (w := w) (base := base) T   
  have q__law_copied := w__law_copied (P := P) (w := w) (base := base) T    6
  have qn__law_copied := wn__law_copied (P := P) (w := w) (base := base) T  6
  have q__law_emptied := w__law_emptied (P := P) (w := w) (base := base) T 6
  have q__law_told := w__law_told (P := P) (w := w) (base := base) T q_ranking_text q_folk_text q__law_marks q__law_copied  
  have q__law_word := w__law_word (P := P) (w := w) (base := base) T   
  have q__law_great := w__law_great (P := P) (w := w) (base := base) T q__law_draw  
  exact w_law (P := P) (w := w) (base := base) T law_k80_ok q_ranking_text q_read_ranking q_folk_text q_read_folk q__law_left q__law_draw q__law_names q__law_tree q__law_folk q__law_copied q__law_told q__law_word q__law_great  qn__law_copied q__law_emptied  (fun_mk l_law c_law k_law)
end K80
end DL
open PySem PySem.W PyProof.Rows in
set_option maxRecDepth 100000 in
set_option maxHeartbeats 0 in
theorem PySem.Challenge.cw_ontheline_k80_rankings_and_folk_written_holds : PySem.Challenge.rw_ontheline_k80_rankings_and_folk_written.Holds := by
  w_on; o_law; k_head; (case hw => w_witness2)
  k_fill
  refine DL.walk (l := PySem.Challenge.rw_ontheline_k80_rankings_and_folk_written) (k := 9) (x := "_law_script") rfl rfl ⟨rfl, by decide, by decide⟩ (by unfold DL.tabA; rfl) (fun w h Y => PySem.W.kIn_of Y) ?F
  case F =>
    intro w mg fa h KX G hmg
    refine' DL.K80.all_mk KX G hmg ?a_is_number ?l_is_number ?c_is_number ?k_is_number ?a_are_unlike_names ?l_are_unlike_names ?c_are_unlike_names ?k_are_unlike_names ?a_is_ranking ?l_is_ranking ?c_is_ranking ?k_is_ranking ?a_is_folk ?l_is_folk ?c_is_folk ?k_is_folk ?a_must_be_ranking ?l_must_be_ranking ?c_must_be_ranking ?k_must_be_ranking ?a_must_be_folk ?l_must_be_folk ?c_must_be_folk ?k_must_be_folk ?a_number_of ?l_number_of ?c_number_of ?k_number_of ?a_ranking_of ?l_ranking_of ?c_ranking_of ?k_ranking_of ?a_in_one ?l_in_one ?c_in_one ?k_in_one ?a_ranking_text ?l_ranking_text ?c_ranking_text ?k_ranking_text ?a_read_ranking ?l_read_ranking ?c_read_ranking ?k_read_ranking ?a_folk_text ?l_folk_text ?c_folk_text ?k_folk_text ?a_read_folk ?l_read_folk ?c_read_folk ?k_read_folk ?a__law_mix ?l__law_mix ?c__law_mix ?k__law_mix ?a__law_left ?l__law_left ?c__law_left ?k__law_left ?a__law_draw ?l__law_draw ?c__law_draw ?k__law_draw ?a__law_names ?l__law_names ?c__law_names ?k__law_names ?a__law_shuffled ?l__law_shuffled ?c__law_shuffled ?k__law_shuffled ?a__law_tree ?l__law_tree ?c__law_tree ?k__law_tree ?a__law_falling ?l__law_falling ?c__law_falling ?k__law_falling ?a__law_folk ?l__law_folk ?c__law_folk ?k__law_folk ?a__law_marks ?l__law_marks ?c__law_marks ?k__law_marks ?a__law_copied ?l__law_copied ?c__law_copied ?k__law_copied ?a__law_emptied ?l__law_emptied ?c__law_emptied ?k__law_emptied ?a__law_told ?l__law_told ?c__law_told ?k__law_told ?a__law_word ?l__law_word ?c__law_word ?k__law_word ?a__law_great ?l__law_great ?c__law_great ?k__law_great ?a_law ?l_law ?c_law ?k_law ?z_isinstance ?z_int ?z_bool ?z_len ?z_list ?z_all ?z_set ?z_sorted ?z_str ?z_enumerate ?z_range ?z_min ?z_max ?z_ValueError ?z_zip ?z_tuple ?g_MOST_NAMES ?g_MOST_HANDS ?g_MOST_FIGURES ?g_FIGURES ?ca_NoFolk ?cb_NoFolk ?ct_NoFolk ?cd_NoFolk ?ca_NoRanking ?cb_NoRanking ?ct_NoRanking ?cd_NoRanking ?ca_FolkError ?cb_FolkError ?ct_FolkError ?cd_FolkError ?cx_NoFolk ?ck_NoFolk ?cv_NoFolk ?cg_NoFolk ?ch_NoFolk ?cc_NoFolk ?cm_NoFolk ?cf_NoFolk ?cp_NoFolk_NoFolk ?cp_NoFolk_NoRanking ?cx_NoRanking ?ck_NoRanking ?cv_NoRanking ?cg_NoRanking ?ch_NoRanking ?cc_NoRanking ?cm_NoRanking ?cf_NoRanking ?cp_NoRanking_NoFolk ?cp_NoRanking_NoRanking ?ca_NoBack ?ct_NoBack ?cd_NoBack ?cp_NoFolk_NoBack ?cp_NoRanking_NoBack ?ca_NoFall ?ct_NoFall ?cd_NoFall ?cp_NoFolk_NoFall ?cp_NoRanking_NoFall ?ca_NoFit ?ct_NoFit ?cd_NoFit ?cp_NoFolk_NoFit ?cp_NoRanking_NoFit ?ca_NoFixed ?ct_NoFixed ?cd_NoFixed ?cp_NoFolk_NoFixed ?cp_NoRanking_NoFixed ?ca_NoHand ?ct_NoHand ?cd_NoHand ?cp_NoFolk_NoHand ?cp_NoRanking_NoHand ?ca_NoLine ?ct_NoLine ?cd_NoLine ?cp_NoFolk_NoLine ?cp_NoRanking_NoLine ?ca_NoNames ?ct_NoNames ?cd_NoNames ?cp_NoFolk_NoNames ?cp_NoRanking_NoNames ?ca_NoNumber ?ct_NoNumber ?cd_NoNumber ?cp_NoFolk_NoNumber ?cp_NoRanking_NoNumber ?ca_NoPaper ?ct_NoPaper ?cd_NoPaper ?cp_NoFolk_NoPaper ?cp_NoRanking_NoPaper ?ca_NoRow ?ct_NoRow ?cd_NoRow ?cp_NoFolk_NoRow ?cp_NoRanking_NoRow ?ca_NoRule ?ct_NoRule ?cd_NoRule ?cp_NoFolk_NoRule ?cp_NoRanking_NoRule ?ca_NoText ?ct_NoText ?cd_NoText ?cp_NoFolk_NoText ?cp_NoRanking_NoText ?ca_NoTitle ?ct_NoTitle ?cd_NoTitle ?cp_NoFolk_NoTitle ?cp_NoRanking_NoTitle ?ca_NoTops ?ct_NoTops ?cd_NoTops ?cp_NoFolk_NoTops ?cp_NoRanking_NoTops ?ca_NoTree ?ct_NoTree ?cd_NoTree ?cp_NoFolk_NoTree ?cp_NoRanking_NoTree ?ca_NoWeights ?ct_NoWeights ?cd_NoWeights ?cp_NoFolk_NoWeights ?cp_NoRanking_NoWeights ?ca_TooGreat ?ct_TooGreat ?cd_TooGreat ?cp_NoFolk_TooGreat ?cp_NoRanking_TooGreat ?c0_s ?c0_t
    (case a_is_number => k_is)
    (case l_is_number => k_is)
    (case c_is_number => k_is)
    (case k_is_number => k_is)
    (case a_are_unlike_names => k_is)
    (case l_are_unlike_names => k_is)
    (case c_are_unlike_names => k_is)
    (case k_are_unlike_names => k_is)
    (case a_is_ranking => k_is)
    (case l_is_ranking => k_is)
    (case c_is_ranking => k_is)
    (case k_is_ranking => k_is)
    (case a_is_folk => k_is)
    (case l_is_folk => k_is)
    (case c_is_folk => k_is)
    (case k_is_folk => k_is)
    (case a_must_be_ranking => k_is)
    (case l_must_be_ranking => k_is)
    (case c_must_be_ranking => k_is)
    (case k_must_be_ranking => k_is)
    (case a_must_be_folk => k_is)
    (case l_must_be_folk => k_is)
    (case c_must_be_folk => k_is)
    (case k_must_be_folk => k_is)
    (case a_number_of => k_is)
    (case l_number_of => k_is)
    (case c_number_of => k_is)
    (case k_number_of => k_is)
    (case a_ranking_of => k_is)
    (case l_ranking_of => k_is)
    (case c_ranking_of => k_is)
    (case k_ranking_of => k_is)
    (case a_in_one => k_is)
    (case l_in_one => k_is)
    (case c_in_one => k_is)
    (case k_in_one => k_is)
    (case a_ranking_text => k_is)
    (case l_ranking_text => k_is)
    (case c_ranking_text => k_is)
    (case k_ranking_text => k_is)
    (case a_read_ranking => k_is)
    (case l_read_ranking => k_is)
    (case c_read_ranking => k_is)
    (case k_read_ranking => k_is)
    (case a_folk_text => k_is)
    (case l_folk_text => k_is)
    (case c_folk_text => k_is)
    (case k_folk_text => k_is)
    (case a_read_folk => k_is)
    (case l_read_folk => k_is)
    (case c_read_folk => k_is)
    (case k_read_folk => k_is)
    (case a__law_mix => k_is)
    (case l__law_mix => k_is)
    (case c__law_mix => k_is)
    (case k__law_mix => k_is)
    (case a__law_left => k_is)
    (case l__law_left => k_is)
    (case c__law_left => k_is)
    (case k__law_left => k_is)
    (case a__law_draw => k_is)
    (case l__law_draw => k_is)
    (case c__law_draw => k_is)
    (case k__law_draw => k_is)
    (case a__law_names => k_is)
    (case l__law_names => k_is)
    (case c__law_names => k_is)
    (case k__law_names => k_is)
    (case a__law_shuffled => k_is)
    (case l__law_shuffled => k_is)
    (case c__law_shuffled => k_is)
    (case k__law_shuffled => k_is)
    (case a__law_tree => k_is)
    (case l__law_tree => k_is)
    (case c__law_tree => k_is)
    (case k__law_tree => k_is)
    (case a__law_falling => k_is)
    (case l__law_falling => k_is)
    (case c__law_falling => k_is)
    (case k__law_falling => k_is)
    (case a__law_folk => k_is)
    (case l__law_folk => k_is)
    (case c__law_folk => k_is)
    (case k__law_folk => k_is)
    (case a__law_marks => k_is)
    (case l__law_marks => k_is)
    (case c__law_marks => k_is)
    (case k__law_marks => k_is)
    (case a__law_copied => k_is)
    (case l__law_copied => k_is)
    (case c__law_copied => k_is)
    (case k__law_copied => k_is)
    (case a__law_emptied => k_is)
    (case l__law_emptied => k_is)
    (case c__law_emptied => k_is)
    (case k__law_emptied => k_is)
    (case a__law_told => k_is)
    (case l__law_told => k_is)
    (case c__law_told => k_is)
    (case k__law_told => k_is)
    (case a__law_word => k_is)
    (case l__law_word => k_is)
    (case c__law_word => k_is)
    (case k__law_word => k_is)
    (case a__law_great => k_is)
    (case l__law_great => k_is)
    (case c__law_great => k_is)
    (case k__law_great => k_is)
    (case a_law => k_is)
    (case l_law => k_is)
    (case c_law => k_is)
    (case k_law => k_is)
    (case z_isinstance => k_is)
    (case z_int => k_is)
    (case z_bool => k_is)
    (case z_len => k_is)
    (case z_list => k_is)
    (case z_all => k_is)
    (case z_set => k_is)
    (case z_sorted => k_is)
    (case z_str => k_is)
    (case z_enumerate => k_is)
    (case z_range => k_is)
    (case z_min => k_is)
    (case z_max => k_is)
    (case z_ValueError => k_is)
    (case z_zip => k_is)
    (case z_tuple => k_is)
    (case g_MOST_NAMES => k_is)
    (case g_MOST_HANDS => k_is)
    (case g_MOST_FIGURES => k_is)
    (case g_FIGURES => k_is)
    (case ca_NoFolk => k_is)
    (case cb_NoFolk => k_is)
    (case ct_NoFolk => k_is)
    (case cd_NoFolk => k_is)
    (case ca_NoRanking => k_is)
    (case cb_NoRanking => k_is)
    (case ct_NoRanking => k_is)
    (case cd_NoRanking => k_is)
    (case ca_FolkError => k_is)
    (case cb_FolkError => k_is)
    (case ct_FolkError => k_is)
    (case cd_FolkError => k_is)
    (case cx_NoFolk => k_exc)
    (case ck_NoFolk => k_is)
    (case cv_NoFolk => k_is)
    (case cg_NoFolk => k_is)
    (case ch_NoFolk => k_is)
    (case cc_NoFolk => k_is)
    (case cm_NoFolk => k_is)
    (case cf_NoFolk => k_is)
    (case cp_NoFolk_NoFolk => k_is)
    (case cp_NoFolk_NoRanking => k_is)
    (case cx_NoRanking => k_exc)
    (case ck_NoRanking => k_is)
    (case cv_NoRanking => k_is)
    (case cg_NoRanking => k_is)
    (case ch_NoRanking => k_is)
    (case cc_NoRanking => k_is)
    (case cm_NoRanking => k_is)
    (case cf_NoRanking => k_is)
    (case cp_NoRanking_NoFolk => k_is)
    (case cp_NoRanking_NoRanking => k_is)
    (case ca_NoBack => k_is)
    (case ct_NoBack => k_is)
    (case cd_NoBack => k_is)
    (case cp_NoFolk_NoBack => k_is)
    (case cp_NoRanking_NoBack => k_is)
    (case ca_NoFall => k_is)
    (case ct_NoFall => k_is)
    (case cd_NoFall => k_is)
    (case cp_NoFolk_NoFall => k_is)
    (case cp_NoRanking_NoFall => k_is)
    (case ca_NoFit => k_is)
    (case ct_NoFit => k_is)
    (case cd_NoFit => k_is)
    (case cp_NoFolk_NoFit => k_is)
    (case cp_NoRanking_NoFit => k_is)
    (case ca_NoFixed => k_is)
    (case ct_NoFixed => k_is)
    (case cd_NoFixed => k_is)
    (case cp_NoFolk_NoFixed => k_is)
    (case cp_NoRanking_NoFixed => k_is)
    (case ca_NoHand => k_is)
    (case ct_NoHand => k_is)
    (case cd_NoHand => k_is)
    (case cp_NoFolk_NoHand => k_is)
    (case cp_NoRanking_NoHand => k_is)
    (case ca_NoLine => k_is)
    (case ct_NoLine => k_is)
    (case cd_NoLine => k_is)
    (case cp_NoFolk_NoLine => k_is)
    (case cp_NoRanking_NoLine => k_is)
    (case ca_NoNames => k_is)
    (case ct_NoNames => k_is)
    (case cd_NoNames => k_is)
    (case cp_NoFolk_NoNames => k_is)
    (case cp_NoRanking_NoNames => k_is)
    (case ca_NoNumber => k_is)
    (case ct_NoNumber => k_is)
    (case cd_NoNumber => k_is)
    (case cp_NoFolk_NoNumber => k_is)
    (case cp_NoRanking_NoNumber => k_is)
    (case ca_NoPaper => k_is)
    (case ct_NoPaper => k_is)
    (case cd_NoPaper => k_is)
    (case cp_NoFolk_NoPaper => k_is)
    (case cp_NoRanking_NoPaper => k_is)
    (case ca_NoRow => k_is)
    (case ct_NoRow => k_is)
    (case cd_NoRow => k_is)
    (case cp_NoFolk_NoRow => k_is)
    (case cp_NoRanking_NoRow => k_is)
    (case ca_NoRule => k_is)
    (case ct_NoRule => k_is)
    (case cd_NoRule => k_is)
    (case cp_NoFolk_NoRule => k_is)
    (case cp_NoRanking_NoRule => k_is)
    (case ca_NoText => k_is)
    (case ct_NoText => k_is)
    (case cd_NoText => k_is)
    (case cp_NoFolk_NoText => k_is)
    (case cp_NoRanking_NoText => k_is)
    (case ca_NoTitle => k_is)
    (case ct_NoTitle => k_is)
    (case cd_NoTitle => k_is)
    (case cp_NoFolk_NoTitle => k_is)
    (case cp_NoRanking_NoTitle => k_is)
    (case ca_NoTops => k_is)
    (case ct_NoTops => k_is)
    (case cd_NoTops => k_is)
    (case cp_NoFolk_NoTops => k_is)
    (case cp_NoRanking_NoTops => k_is)
    (case ca_NoTree => k_is)
    (case ct_NoTree => k_is)
    (case cd_NoTree => k_is)
    (case cp_NoFolk_NoTree => k_is)
    (case cp_NoRanking_NoTree => k_is)
    (case ca_NoWeights => k_is)
    (case ct_NoWeights => k_is)
    (case cd_NoWeights => k_is)
    (case cp_NoFolk_NoWeights => k_is)
    (case cp_NoRanking_NoWeights => k_is)
    (case ca_TooGreat => k_is)
    (case ct_TooGreat => k_is)
    (case cd_TooGreat => k_is)
    (case cp_NoFolk_TooGreat => k_is)
    (case cp_NoRanking_TooGreat => k_is)
    (case c0_s => k_is)
    (case c0_t => k_is)
