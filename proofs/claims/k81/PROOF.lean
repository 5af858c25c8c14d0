import PyProof.Rows.All
import Wide.All
import OpenK.AllK
import Wide.FinOn
import HandS.ForMost
import HandS.ForSpec
import HandS.Evl
import HandS.Deep
import HandS.IsInst
import HandS.SortInts
import HandS.Style
import HandS.NoneIn
import HandS.Wide
import HandS.TupAny
import KE.DataEq
import HandS.Lambda
import KE.SortCalls
import HandS.Remove
import HandS.SetFor
import HandS.Strs
import HandS.Conv
import PyProof.StrLawsRepr
import HandS.ExcIs
import HandS.ExcOwn
import HandS.ExcValue
import HandS.Text
import HandS.TupSets
import HandS.ExcInit
import HandS.ClsMeth
import KE.KExcIs
import HandS.ExcField
import HandS.Iter
import HandS.Replace
import HandS.ReplaceList
import PySem.Challenge.RW_ontheline_k81_texts_of_no_folk
set_option Elab.async false
set_option linter.all false
set_option maxRecDepth 100000
set_option maxHeartbeats 4000000
/-! DL: a layer of values over the layer of heaps -/
noncomputable section
namespace DL
open PySem L2
open Evl (Ex)

/-! ### data -/
structure Exn where
  name : String
  arg : Option PyData
inductive OD where
  | dict (kvs : List (Key × PyData)) | dictT (kvs : List (List Key × PyData)) | exc (x : Exn) | set (S : Int → Bool) (n : Nat) | scr (ns : List Int) | excs (n : String) (is : List Int)
inductive R where
  | val (d : PyData) | new (ds : List PyData) | slot (i : Nat) | raw (v : V) | ob (o : OD)
inductive Sl where
  | no | val (d : PyData) | own (ds : List PyData) | raw (v : V) | ob (o : OD)
abbrev Pw := Option (Addr × Addr × List Int × Int)
structure DSt where
  d : List Sl
  w : Pw
inductive Res (α : Type) where
  | ok (a : α) (s : DSt) | err (x : Exn) (s : DSt) | stuck
inductive Flow where
  | next (s : DSt) | ret (r : R) (s : DSt) | brk (s : DSt) | cnt (s : DSt) | err (x : Exn) (s : DSt) | stuck
inductive FRes where
  | ok (r : R) (w : Pw) | err (x : Exn) (w : Pw) | stuck

abbrev M (α : Type) := DSt → Res α
def inB (j : Int) : Prop := -(2 ^ 62) ≤ j ∧ j < 2 ^ 62
instance (j : Int) : Decidable (inB j) := Classical.propDecidable _
def inW (j : Int) : Prop := -(2 ^ 63) ≤ j ∧ j < 2 ^ 63
instance (j : Int) : Decidable (inW j) := Classical.propDecidable _
def leS (n : Nat) : Prop := n ≤ sizeLine
instance (n : Nat) : Decidable (leS n) := Classical.propDecidable _
def ltS (n : Nat) : Prop := n < sizeLine
instance (n : Nat) : Decidable (ltS n) := Classical.propDecidable _
def lgM (a b : Int) : Prop := a.natAbs.log2 + b.natAbs.log2 < 1000000
instance (a b : Int) : Decidable (lgM a b) := Classical.propDecidable _
def lgD (a : Int) : Prop := a.natAbs.log2 < 9000
instance (a : Int) : Decidable (lgD a) := Classical.propDecidable _
def lgP (a : Int) : Prop := a.natAbs.log2 < 4000
instance (a : Int) : Decidable (lgP a) := Classical.propDecidable _
def leP (a : Int) : Prop := a ≤ 30000
instance (a : Int) : Decidable (leP a) := Classical.propDecidable _
def Res.bind {α β : Type} (r : Res α) (g : α → M β) : Res β := match r with
  | .ok a s => g a s
  | .err x s => .err x s
  | .stuck => .stuck
def bnd {α β : Type} (f : M α) (g : α → M β) : M β := fun s => (f s).bind g
def ret {α : Type} (a : α) : M α := fun s => .ok a s
def stk {α : Type} : M α := fun _ => .stuck
@[simp] theorem bnd_app {α β : Type} (f : M α) (g : α → M β) (s : DSt) : bnd f g s = (f s).bind g := rfl
@[simp] theorem bind_ok {α β : Type} (a : α) (s : DSt) (g : α → M β) : (Res.ok a s).bind g = g a s := rfl
@[simp] theorem bind_err {α β : Type} (x : Exn) (s : DSt) (g : α → M β) : (Res.err x s : Res α).bind g = .err x s := rfl
@[simp] theorem bind_stuck {α β : Type} (g : α → M β) : (Res.stuck : Res α).bind g = .stuck := rfl
@[simp] theorem ret_app {α : Type} (a : α) (s : DSt) : ret a s = .ok a s := rfl
@[simp] theorem stk_app {α : Type} (s : DSt) : (stk s : Res α) = .stuck := rfl

/-! ### data as it stands in a heap -/
mutual
inductive Rp (K : PySem.W.Frag) (H : Hp) : V → PyData → Prop
  | non : Rp K H .non .none
  | bl (b : Bool) : Rp K H (.bl b) (.bool b)
  | int (i : Int) : Rp K H (.int i) (.int i)
  | str (x : Str) : Rp K H (.str x) (.str x)
  | lst {a : Addr} {xs : List V} {ds : List PyData} : H a = some (.lst xs) → RpAll K H xs ds → Rp K H (.ref a) (.list ds)
  | tup {a : Addr} {xs : List V} {ds : List PyData} : H a = some (.tup xs) → RpAll K H xs ds → Rp K H (.ref a) (.tuple ds)
inductive RpAll (K : PySem.W.Frag) (H : Hp) : List V → List PyData → Prop
  | nil : RpAll K H [] []
  | cons {v : V} {vs : List V} {d : PyData} {ds : List PyData} : Rp K H v d → RpAll K H vs ds → RpAll K H (v :: vs) (d :: ds)
end
mutual
theorem rp_dp {K : PySem.W.Frag} {H : Hp} : ∀ (d : PyData) (v : V), Rp K H v d → Dp K H v d
  | .none, _, h => by cases h; exact .non
  | .bool b, _, h => by cases h; exact .bl b
  | .int i, _, h => by cases h; exact .int i
  | .str x, _, h => by cases h; exact .str x
  | .list ds, _, h => by
    cases h with
    | lst hs ha => exact .lst (.of hs) (rps_dps ds _ ha)
  | .tuple ds, _, h => by
    cases h with
    | tup hs ha => exact .tup (.of hs) (rps_dps ds _ ha)
  | .dict _, _, h => by cases h
theorem rps_dps {K : PySem.W.Frag} {H : Hp} : ∀ (ds : List PyData) (vs : List V), RpAll K H vs ds → DpAll K H vs ds
  | [], _, h => by cases h; exact .nil
  | d :: ds, _, h => by
    cases h with
    | cons h1 h2 => exact .cons (rp_dp d _ h1) (rps_dps ds _ h2)
end
mutual
theorem rp_plain {K : PySem.W.Frag} {H : Hp} : ∀ (d : PyData) (v : V), Rp K H v d → d.plain = true
  | .none, _, _ => rfl
  | .bool b, _, _ => rfl
  | .int i, _, _ => rfl
  | .str x, _, _ => rfl
  | .list ds, _, h => by
    cases h with
    | lst hs ha => simp only [PyData.plain]; exact rps_plain ds _ ha
  | .tuple ds, _, h => by
    cases h with
    | tup hs ha => simp only [PyData.plain]; exact rps_plain ds _ ha
  | .dict _, _, h => by cases h
theorem rps_plain {K : PySem.W.Frag} {H : Hp} : ∀ (ds : List PyData) (vs : List V), RpAll K H vs ds → PyData.plainAll ds = true
  | [], _, h => rfl
  | d :: ds, _, h => by
    cases h with
    | cons h1 h2 => simp [PyData.plainAll, rp_plain d _ h1, rps_plain ds _ h2]
end
mutual
theorem dp_mono {K : PySem.W.Frag} {H H' : Hp} (e : Ex H H') : ∀ (d : PyData) (v : V), Rp K H v d → Rp K H' v d
  | .none, _, h => by cases h; exact .non
  | .bool b, _, h => by cases h; exact .bl b
  | .int i, _, h => by cases h; exact .int i
  | .str x, _, h => by cases h; exact .str x
  | .list ds, _, h => by
    cases h with
    | lst hs ha => exact .lst (e _ _ hs) (dps_mono e ds _ ha)
  | .tuple ds, _, h => by
    cases h with
    | tup hs ha => exact .tup (e _ _ hs) (dps_mono e ds _ ha)
  | .dict _, _, h => by cases h
theorem dps_mono {K : PySem.W.Frag} {H H' : Hp} (e : Ex H H') : ∀ (ds : List PyData) (vs : List V), RpAll K H vs ds → RpAll K H' vs ds
  | [], _, h => by cases h; exact .nil
  | d :: ds, _, h => by
    cases h with
    | cons h1 h2 => exact .cons (dp_mono e d _ h1) (dps_mono e ds _ h2)
end
theorem dps_len {K : PySem.W.Frag} {H : Hp} : ∀ {ds : List PyData} {vs : List V}, RpAll K H vs ds → vs.length = ds.length
  | [], _, h => by cases h; rfl
  | d :: ds, _, h => by
    cases h with
    | cons h1 h2 => simp [dps_len h2]
theorem dps_get {K : PySem.W.Frag} {H : Hp} : ∀ {ds : List PyData} {vs : List V} {i : Nat} {v : V}, RpAll K H vs ds → vs[i]? = some v → ∃ d, ds[i]? = some d ∧ Rp K H v d
  | [], _, i, v, h, e => by cases h; simp at e
  | d :: ds, _, 0, v, h, e => by
    cases h with
    | cons h1 h2 => simp at e; subst e; exact ⟨d, rfl, h1⟩
  | d :: ds, _, i + 1, v, h, e => by
    cases h with
    | cons h1 h2 => simpa using dps_get (i := i) h2 (by simpa using e)
theorem dps_app {K : PySem.W.Frag} {H : Hp} : ∀ {ds es : List PyData} {vs us : List V}, RpAll K H vs ds → RpAll K H us es → RpAll K H (vs ++ us) (ds ++ es)
  | [], _, _, _, h, h' => by cases h; exact h'
  | d :: ds, _, _, _, h, h' => by
    cases h with
    | cons h1 h2 => exact .cons h1 (dps_app h2 h')
theorem dps_take {K : PySem.W.Frag} {H : Hp} : ∀ {ds : List PyData} {vs : List V} (n : Nat), RpAll K H vs ds → RpAll K H (vs.take n) (ds.take n)
  | _, _, 0, _ => by simp; exact .nil
  | [], _, n + 1, h => by cases h; exact .nil
  | d :: ds, _, n + 1, h => by
    cases h with
    | cons h1 h2 => exact .cons h1 (dps_take n h2)
theorem dps_drop {K : PySem.W.Frag} {H : Hp} : ∀ {ds : List PyData} {vs : List V} (n : Nat), RpAll K H vs ds → RpAll K H (vs.drop n) (ds.drop n)
  | _, _, 0, h => by simpa using h
  | [], _, n + 1, h => by cases h; exact .nil
  | d :: ds, _, n + 1, h => by
    cases h with
    | cons h1 h2 => exact dps_drop n h2
theorem dps_set {K : PySem.W.Frag} {H : Hp} {v : V} {d : PyData} (q : Rp K H v d) : ∀ {ds : List PyData} {vs : List V} (n : Nat), RpAll K H vs ds → RpAll K H (vs.set n v) (ds.set n d)
  | [], _, n, h => by cases h; exact .nil
  | _ :: ds, _, 0, h => by
    cases h with
    | cons h1 h2 => exact .cons q h2
  | _ :: ds, _, n + 1, h => by
    cases h with
    | cons h1 h2 => exact .cons h1 (dps_set q n h2)
/-! ### other things -/
def clOf (K : PySem.W.Frag) (n : String) : Addr := match PySem.W.nsIn K mainGlobals (Str.ofString n) with
  | some (some (.ref a)) => a
  | _ => 0
theorem clOf_of {K : PySem.W.Frag} {n : String} {a : Addr} (h : PySem.W.nsIn K mainGlobals (Str.ofString n) = some (some (.ref a))) : clOf K n = a := by
  unfold clOf
  rw [h]
def fieldOf (n : String) : Str := if n = "NoFall" then "hand" else "at"
def ExA (K : PySem.W.Frag) (H : Hp) (n : String) (d : Option Addr) : Option PyData → Prop
  | none => d = none
  | some e => ∃ dd v, d = some dd ∧ H dd = some (.xd [(fieldOf n, v)]) ∧ Rp K H v e
def excO (a : Addr) (cls : Value) (d : Option Addr) : HO := .ext fun h => ∃ o, h.get? a = some o ∧ Zc cls d o ∧ ∃ vs, o.data = .fields vs
inductive KRp {κ : Type} (K : PySem.W.Frag) (H : Hp) : List (κ × V) → List (κ × PyData) → Prop
  | nil : KRp K H [] []
  | cons {k : κ} {v : V} {d : PyData} {xs : List (κ × V)} {ys : List (κ × PyData)} : Rp K H v d → KRp K H xs ys → KRp K H ((k, v) :: xs) ((k, d) :: ys)
inductive ExAll (K : PySem.W.Frag) (H : Hp) (n : String) : List V → List Int → Prop
  | nil : ExAll K H n [] []
  | cons {b d : Addr} {i : Int} {vs : List V} {is : List Int} : H b = some (excO b (.ref (clOf K n)) (some d)) → H d = some (.xd [(fieldOf n, .int i)]) → ExAll K H n vs is → ExAll K H n (.ref b :: vs) (i :: is)
theorem exall_mono {K : PySem.W.Frag} {H H' : Hp} (e : Ex H H') {n : String} : ∀ {vs : List V} {is : List Int}, ExAll K H n vs is → ExAll K H' n vs is
  | _, _, .nil => .nil
  | _, _, .cons h1 h2 t => .cons (e _ _ h1) (e _ _ h2) (exall_mono e t)
def ObRel (K : PySem.W.Frag) (H : Hp) (v : V) : OD → Prop
  | .dict kvs => ∃ a vs, v = .ref a ∧ H a = some (.dK vs) ∧ KRp K H vs kvs
  | .dictT kvs => ∃ a vs, v = .ref a ∧ H a = some (.dT vs) ∧ KRp K H vs kvs
  | .exc x => ∃ a d, v = .ref a ∧ H a = some (excO a (.ref (clOf K x.name)) d) ∧ ExA K H x.name d x.arg
  | .set S n => ∃ a, v = .ref a ∧ H a = some (.set S n)
  | .scr ns => ∃ a, v = .ref a ∧ SqL K H a (ns.map V.int)
  | .excs n is => ∃ a vs, v = .ref a ∧ H a = some (.lst vs) ∧ ExAll K H n vs is
theorem krp_mono {κ : Type} {K : PySem.W.Frag} {H H' : Hp} (e : Ex H H') : ∀ {vs : List (κ × V)} {kvs : List (κ × PyData)}, KRp K H vs kvs → KRp K H' vs kvs
  | _, _, .nil => .nil
  | _, _, .cons h t => .cons (dp_mono e _ _ h) (krp_mono e t)
theorem exa_mono {K : PySem.W.Frag} {H H' : Hp} (e : Ex H H') {n : String} {d : Option Addr} : ∀ {o : Option PyData}, ExA K H n d o → ExA K H' n d o
  | none, h => h
  | some x, ⟨dd, v, h1, h2, h3⟩ => ⟨dd, v, h1, e _ _ h2, dp_mono e _ _ h3⟩
theorem ob_mono {K : PySem.W.Frag} {H H' : Hp} (e : Ex H H') {v : V} : ∀ {o : OD}, ObRel K H v o → ObRel K H' v o
  | .dict kvs, ⟨a, vs, h1, h2, h3⟩ => ⟨a, vs, h1, e _ _ h2, krp_mono e h3⟩
  | .dictT kvs, ⟨a, vs, h1, h2, h3⟩ => ⟨a, vs, h1, e _ _ h2, krp_mono e h3⟩
  | .exc x, ⟨a, d, h1, h2, h3⟩ => ⟨a, d, h1, e _ _ h2, exa_mono e h3⟩
  | .set S n, ⟨a, h1, h2⟩ => ⟨a, h1, e _ _ h2⟩
  | .scr ns, ⟨a, h1, h2⟩ => ⟨a, h1, Evl.ex_l e h2⟩
  | .excs n is, ⟨a, vs, h1, h2, h3⟩ => ⟨a, vs, h1, e _ _ h2, exall_mono e h3⟩

/-! ### the state -/
@[irreducible] def tabA : List (Addr × Str) := []
def TOwn (a : Addr) : Prop := ∃ q, (a, q) ∈ tabA
def POwn0 (w : Pw) (a : Addr) : Prop := match w with
  | none => False
  | some (pa, ca, _, _) => a = pa ∨ a = ca
def POwn (w : Pw) (a : Addr) : Prop := POwn0 w a ∨ TOwn a
def OwnAt (s : DSt) (σ : L2.St) (i : Nat) (a : Addr) : Prop := (∃ ds, s.d[i]? = some (.own ds)) ∧ σ[i]? = some (some (.ref a))
def Own (s : DSt) (σ : L2.St) (a : Addr) : Prop := (∃ i, OwnAt s σ i a) ∨ POwn s.w a
def pwA (pa ca : Addr) (cells : List Int) (t : Int) : List V := if pa = ca then cells.map .int else [.ref ca, .int t]
def PwOk0 (G : Hp) (w : Pw) (H : Hp) : Prop := match w with
  | none => True
  | some (pa, ca, cells, t) => True ∧ H pa = some (.lst (pwA pa ca cells t)) ∧ H ca = some (.lst (cells.map .int)) ∧ G pa = none ∧ G ca = none
def TabOk (G H : Hp) : Prop := ∀ p ∈ tabA, LamX.TabS H p.1 p.2 ∧ G p.1 = none
def PwOk (G : Hp) (w : Pw) (H : Hp) : Prop := PwOk0 G w H ∧ TabOk G H
theorem TabOk.to {G G' H H' : Hp} (t : TabOk G H) (k : ∀ a o, H a = some o → TOwn a → H' a = some o) (x : ∀ a φ, H a = some (.ext φ) → H' a = some (.ext φ)) (g : ∀ a, TOwn a → G' a = none) : TabOk G' H' := fun p hp => by
  obtain ⟨⟨ps, h1, h2, h3⟩, _⟩ := t p hp
  refine ⟨⟨ps, k _ _ h1 ⟨p.2, hp⟩, h2, fun pos cv hc => ?_⟩, g _ ⟨p.2, hp⟩⟩
  obtain ⟨c, e1, e2⟩ := h3 pos cv hc
  exact ⟨c, e1, x _ _ e2⟩
theorem TabOk.g {G H : Hp} (t : TabOk G H) {a : Addr} (z : TOwn a) : G a = none := by
  obtain ⟨q, hq⟩ := z
  exact (t _ hq).2
theorem TabOk.h {G H : Hp} (t : TabOk G H) {a : Addr} (z : TOwn a) : ∃ ps, H a = some (.tbl ps) := by
  obtain ⟨q, hq⟩ := z
  obtain ⟨⟨ps, h, _⟩, _⟩ := t _ hq
  exact ⟨ps, h⟩
theorem G_pown {G H : Hp} {w : Pw} (p : PwOk G w H) {a : Addr} (h : POwn w a) : G a = none := by
  rcases h with h | h
  · replace p := p.1
    unfold PwOk0 at p
    unfold POwn0 at h
    split at h
    · exact h.elim
    · rcases h with rfl | rfl
      · exact p.2.2.2.1
      · exact p.2.2.2.2
  · exact p.2.g h
theorem H_pown {G H : Hp} {w : Pw} (p : PwOk G w H) {a : Addr} (h : POwn w a) : (∃ xs, H a = some (.lst xs)) ∨ ∃ ps, H a = some (.tbl ps) := by
  rcases h with h | h
  · left
    replace p := p.1
    unfold PwOk0 at p
    unfold POwn0 at h
    split at h
    · exact h.elim
    · rcases h with rfl | rfl
      · exact ⟨_, p.2.1⟩
      · exact ⟨_, p.2.2.1⟩
  · exact .inr (p.2.h h)
theorem pwok_to {w : Pw} {G G' H H' : Hp} (q : PwOk G w H) (k : ∀ a o, H a = some o → POwn w a → H' a = some o) (x : ∀ a φ, H a = some (.ext φ) → H' a = some (.ext φ)) (g : ∀ a, POwn w a → G' a = none) : PwOk G' w H' := by
  refine ⟨?_, q.2.to (fun a o h z => k a o h (.inr z)) x fun a z => g a (.inr z)⟩
  have q := q.1
  unfold PwOk0 at q ⊢
  split
  · trivial
  · rename_i pa ca cells t
    exact ⟨q.1, k _ _ q.2.1 (.inl (.inl rfl)), k _ _ q.2.2.1 (.inl (.inr rfl)), g _ (.inl (.inl rfl)), g _ (.inl (.inr rfl))⟩
def SlOk (K : PySem.W.Frag) (G H : Hp) (x : Option V) : Sl → Prop
  | .no => True
  | .val d => ∃ v, x = some v ∧ Rp K G v d
  | .raw v => x = some v
  | .ob o => ∃ v, x = some v ∧ ObRel K G v o
  | .own ds => ∃ a xs, x = some (.ref a) ∧ H a = some (.lst xs) ∧ RpAll K G xs ds
structure SA (K : PySem.W.Frag) (G : Hp) (s : DSt) (σ : L2.St) (H : Hp) : Prop where
  len : s.d.length = σ.length
  gh : Ex G H
  slot : ∀ (i : Nat) (sl : Sl), s.d[i]? = some sl → SlOk K G H (σ[i]?.join) sl
  inj : ∀ i j a, OwnAt s σ i a → OwnAt s σ j a → i = j
  ownG : ∀ i a, OwnAt s σ i a → G a = none
  pw : PwOk G s.w H
  pne : ∀ i a, OwnAt s σ i a → ¬ POwn s.w a
structure Stp (G : Hp) (s : DSt) (σ : L2.St) (H : Hp) (G' : Hp) (s' : DSt) (σ' : L2.St) (H' : Hp) : Prop where
  ex : Ex G G'
  keep : ∀ a o, H a = some o → ¬ Own s σ a → H' a = some o ∧ G' a = G a
  own : ∀ a, Own s' σ' a → Own s σ a ∨ H a = none
  dom : ∀ a, H a ≠ none → H' a ≠ none
  pw : ∀ a, POwn s.w a → POwn s'.w a
theorem Stp.refl {G H : Hp} {s : DSt} {σ : L2.St} : Stp G s σ H G s σ H := ⟨Ex.refl G, fun _ _ h _ => ⟨h, rfl⟩, fun _ h => .inl h, fun _ h => h, fun _ h => h⟩
theorem Stp.trans {G G1 G2 H H1 H2 : Hp} {s s1 s2 : DSt} {σ σ1 σ2 : L2.St} (a : Stp G s σ H G1 s1 σ1 H1) (b : Stp G1 s1 σ1 H1 G2 s2 σ2 H2) : Stp G s σ H G2 s2 σ2 H2 where
  ex := a.ex.trans b.ex
  keep := fun x o h n => by
    obtain ⟨h1, g1⟩ := a.keep x o h n
    have n1 : ¬ Own s1 σ1 x := fun z => (a.own x z).elim n fun e => by rw [h] at e; cases e
    obtain ⟨h2, g2⟩ := b.keep x o h1 n1
    exact ⟨h2, g2.trans g1⟩
  own := fun x z => (b.own x z).elim (a.own x) fun e => .inr (Classical.byContradiction fun q => a.dom x q e)
  dom := fun x h => b.dom x (a.dom x h)
  pw := fun x h => b.pw x (a.pw x h)
def RRel (K : PySem.W.Frag) (H0 G : Hp) (s : DSt) (σ : L2.St) (H : Hp) (v : V) : R → Prop
  | .val d => Rp K G v d
  | .raw u => v = u
  | .ob o => ObRel K G v o
  | .slot i => σ[i]? = some (some v)
  | .new ds => ∃ a xs, v = .ref a ∧ H a = some (.lst xs) ∧ RpAll K G xs ds ∧ G a = none ∧ H0 a = none ∧ ¬ Own s σ a
theorem RRel.mono {K : PySem.W.Frag} {H0 G H G' H' : Hp} {s s' : DSt} {σ : L2.St} {v : V} {r : R} (h : RRel K H0 G s σ H v r) (t : Stp G s σ H G' s' σ H') : RRel K H0 G' s' σ H' v r := by
  cases r with
  | val d => exact dp_mono t.ex d v h
  | raw u => exact h
  | ob o => exact ob_mono t.ex h
  | slot i => exact h
  | new ds =>
    obtain ⟨a, xs, e, ha, hd, hg, h0, hn⟩ := h
    obtain ⟨h1, g1⟩ := t.keep a _ ha hn
    refine ⟨a, xs, e, h1, dps_mono t.ex _ _ hd, g1.trans hg, h0, fun z => (t.own a z).elim hn fun q => by rw [ha] at q; cases q⟩
theorem RRel.less {K : PySem.W.Frag} {H0 H1 G H : Hp} {s : DSt} {σ : L2.St} {v : V} {r : R} (h : RRel K H1 G s σ H v r) (d : ∀ a, H0 a ≠ none → H1 a ≠ none) : RRel K H0 G s σ H v r := by
  cases r with
  | val d => exact h
  | raw u => exact h
  | ob o => exact h
  | slot i => exact h
  | new ds =>
    obtain ⟨a, xs, e, ha, hd, hg, h0, hn⟩ := h
    exact ⟨a, xs, e, ha, hd, hg, Classical.byContradiction fun q => d a q h0, hn⟩
def look (r : R) (s : DSt) : Option PyData := match r with
  | .val d => some d
  | .raw _ => none
  | .ob _ => none
  | .new ds => some (.list ds)
  | .slot i => match s.d[i]? with
    | some (.own ds) => some (.list ds)
    | some (.val d) => some d
    | _ => none
theorem look_ok {K : PySem.W.Frag} {H0 G H : Hp} {s : DSt} {σ : L2.St} {v : V} {r : R} {d : PyData} (S : SA K G s σ H) (h : RRel K H0 G s σ H v r) (e : look r s = some d) : Rp K H v d := by
  cases r with
  | val d' => cases e; exact dp_mono S.gh _ _ h
  | raw u => cases e
  | ob o => cases e
  | new ds =>
    cases e
    obtain ⟨a, xs, rfl, ha, hd, _⟩ := h
    exact .lst ha (dps_mono S.gh _ _ hd)
  | slot i =>
    simp only [look] at e
    have h' : σ[i]? = some (some v) := h
    split at e
    · rename_i ds q
      cases e
      obtain ⟨a, xs, e1, ha, hd⟩ := S.slot i _ q
      rw [h'] at e1
      cases e1
      exact .lst ha (dps_mono S.gh _ _ hd)
    · rename_i d' q
      cases e
      obtain ⟨u, e1, hd⟩ := S.slot i _ q
      rw [h'] at e1
      cases e1
      exact dp_mono S.gh _ _ hd
    · cases e
end DL

/-! DL2: the judgements -/
noncomputable section
namespace DL
open PySem L2
open Evl (Ex)

def XRel (K : PySem.W.Frag) (cl : String → Addr) (x : Exn) (cls : Value) (d : Option Addr) (H : Hp) : Prop :=
  cls = .ref (cl x.name) ∧ ExA K H x.name d x.arg
section
variable (K : PySem.W.Frag) (cl : String → Addr) (W : WX)
def Out {α : Type} (G : Hp) (s : DSt) (σ : L2.St) (H : Hp) (r : Res α) (k : α → Hp → DSt → Hp → Prop) : Prop := match r with
  | .ok a s' => ∀ G' H', Stp G s σ H G' s' σ H' → SA K G' s' σ H' → k a G' s' H'
  | .err x s' => ∀ cls d G' H', Stp G s σ H G' s' σ H' → SA K G' s' σ H' → XRel K cl x cls d G' → W cls d σ H'
  | .stuck => False
def tD (f : M R) : TE := fun σ H Q => ∃ G s, SA K G s σ H ∧ Out K cl W G s σ H (f s) fun r G' s' H' => ∀ v, RRel K H G' s' σ H' v r → Q v H'
def tT (f : M Bool) : TT := fun σ H Q => ∃ G s, SA K G s σ H ∧ Out K cl W G s σ H (f s) fun b _ _ H' => Q b H'
def RRels (H0 G : Hp) (s : DSt) (σ : L2.St) (H : Hp) : List V → List R → Prop := Paired fun v r => RRel K H0 G s σ H v r
def tA (f : M (List R)) : TA := fun σ H Q => ∃ G s, SA K G s σ H ∧ Out K cl W G s σ H (f s) fun rs G' s' H' => ∀ vs, RRels K H G' s' σ H' vs rs → Q vs H'
def FOut (G : Hp) (s : DSt) (σ : L2.St) (H : Hp) (fl : Flow) (D : Ends) : Prop := match fl with
  | .next s' => ∀ G' σ' H', Stp G s σ H G' s' σ' H' → SA K G' s' σ' H' → D.nx σ' H'
  | .brk s' => ∀ G' σ' H', Stp G s σ H G' s' σ' H' → SA K G' s' σ' H' → D.bk σ' H'
  | .cnt s' => ∀ G' σ' H', Stp G s σ H G' s' σ' H' → SA K G' s' σ' H' → D.ct σ' H'
  | .ret r s' => ∀ v G' σ' H', Stp G s σ H G' s' σ' H' → SA K G' s' σ' H' → RRel K H G' s' σ' H' v r → D.rt v H'
  | .err x s' => ∀ cls d G' σ' H', Stp G s σ H G' s' σ' H' → SA K G' s' σ' H' → XRel K cl x cls d G' → W cls d σ' H'
  | .stuck => False
def tS (f : DSt → Flow) : TS := fun D σ H => ∃ G s, SA K G s σ H ∧ FOut K cl W G s σ H (f s) D
end
section
variable {K : PySem.W.Frag} {cl : String → Addr} {W : WX} {G H : Hp} {s : DSt} {σ : L2.St}
theorem out_mono {α : Type} {r : Res α} {k k' : α → Hp → DSt → Hp → Prop} (h : Out K cl W G s σ H r k) (i : ∀ a G' s' H', Stp G s σ H G' s' σ H' → SA K G' s' σ H' → k a G' s' H' → k' a G' s' H') : Out K cl W G s σ H r k' := by
  cases r with
  | ok a s' => exact fun G' H' st sa => i a G' s' H' st sa (h G' H' st sa)
  | err x s' => exact h
  | stuck => exact h
theorem out_bind {α β : Type} {r : Res α} {g : α → M β} {k : β → Hp → DSt → Hp → Prop} (h : Out K cl W G s σ H (r.bind g) k) :
    Out K cl W G s σ H r fun a G1 s1 H1 => Out K cl W G1 s1 σ H1 (g a s1) fun b G2 s2 H2 => k b G2 s2 H2 := by
  cases r with
  | ok a s' =>
    intro G1 H1 st sa
    have h : Out K cl W G s σ H (g a s') k := h
    cases e : g a s' with
    | ok b s2 => rw [e] at h; exact fun G2 H2 st2 sa2 => h G2 H2 (st.trans st2) sa2
    | err x s2 => rw [e] at h; exact fun c d G2 H2 st2 sa2 xr => h c d G2 H2 (st.trans st2) sa2 xr
    | stuck => rw [e] at h; exact h
  | err x s' => exact h
  | stuck => exact h
theorem out_less {f : Res R} {H0 : Hp} {Q : VK} (dm : ∀ a, H0 a ≠ none → H a ≠ none) (h : Out K cl W G s σ H f fun r G' s' H' => ∀ v, RRel K H0 G' s' σ H' v r → Q v H') :
    Out K cl W G s σ H f fun r G' s' H' => ∀ v, RRel K H G' s' σ H' v r → Q v H' := out_mono h fun _ _ _ _ _ _ k v q => k v (q.less dm)
end
section
variable {X : Cx} {cl : String → Addr} {W : WX}
theorem pe_imp {e : Expr} {t t' : TE} (h : PE X e t) (i : ∀ σ H Q, t' σ H Q → t σ H Q) : PE X e t' := ⟨fun pins s σ H Q I q => h.run pins s σ H Q I (i σ H Q q)⟩
theorem pt_imp {e : Expr} {t t' : TT} (h : PT X e t) (i : ∀ σ H Q, t' σ H Q → t σ H Q) : PT X e t' := ⟨fun pins s σ H Q I q => h.run pins s σ H Q I (i σ H Q q)⟩
theorem pw_imp {e : Expr} {t t' : TT} (h : PW X e t) (i : ∀ σ H Q, t' σ H Q → t σ H Q) : PW X e t' := ⟨fun wh pins s σ H Q I q => h.run wh pins s σ H Q I (i σ H Q q)⟩
theorem pa_imp {es : List Expr} {t t' : TA} (h : PA X es t) (i : ∀ σ H Q, t' σ H Q → t σ H Q) : PA X es t' := ⟨fun pos pins s σ H Q I q => h.run pos pins s σ H Q I (i σ H Q q)⟩
theorem ps_imp {st : Stmt} {t t' : TS} (h : PS X st t) (i : ∀ D σ H, t' D σ H → t D σ H) : PS X st t' := ⟨fun pins s σ H D I q => h.run pins s σ H D I (i D σ H q)⟩
theorem pss_imp {st : List Stmt} {t t' : TS} (h : PSs X st t) (i : ∀ D σ H, t' D σ H → t D σ H) : PSs X st t' := ⟨fun pins s σ H D I q => h.run pins s σ H D I (i D σ H q)⟩
abbrev DE (X : Cx) (cl : String → Addr) (W : WX) (e : Expr) (f : M R) : Prop := PE X e (tD X.K cl W f)
abbrev DT (X : Cx) (cl : String → Addr) (W : WX) (e : Expr) (f : M Bool) : Prop := PT X e (tT X.K cl W f)
abbrev DW (X : Cx) (cl : String → Addr) (W : WX) (e : Expr) (f : M Bool) : Prop := PW X e (tT X.K cl W f)
abbrev DA (X : Cx) (cl : String → Addr) (W : WX) (es : List Expr) (f : M (List R)) : Prop := PA X es (tA X.K cl W f)
abbrev DS (X : Cx) (cl : String → Addr) (W : WX) (st : Stmt) (f : DSt → Flow) : Prop := PS X st (tS X.K cl W f)
abbrev DSs (X : Cx) (cl : String → Addr) (W : WX) (st : List Stmt) (f : DSt → Flow) : Prop := PSs X st (tS X.K cl W f)

/-! ### names, constants -/
def fVar (i : Nat) : M R := fun s => match s.d[i]? with
  | some (.val d) => .ok (.val d) s
  | some (.raw v) => .ok (.raw v) s
  | some (.ob o) => .ok (.ob o) s
  | some (.own _) => .ok (.slot i) s
  | _ => .stuck
theorem d_var (i : Nat) {x : Str} {pos : Pos} (hN : X.N[i]? = some x := by rfl) (hv : Vis X.env.scope x := by first | exact Or.inl rfl | exact Or.inr (Or.inl rfl) | exact Or.inr (Or.inr rfl)) (hd : (x == ("__debug__" : Str)) = false := by decide)
    (hcd : (x == ("__classdict__" : Str)) = false := by decide) : DE X cl W (.Name x pos) (fVar i) := by
  refine pe_imp (pe_var hN hv hd hcd) fun σ H Q ⟨G, s, S, h⟩ => ?_
  unfold fVar at h
  split at h
  · rename_i d q
    obtain ⟨v, e, hd⟩ := S.slot i _ q
    have e' : σ[i]? = some (some v) := by
      cases z : σ[i]? with
      | none => rw [z] at e; cases e
      | some o => rw [z] at e; simp at e; rw [e]
    exact ⟨v, e', h G H Stp.refl S v hd⟩
  · rename_i u q
    have e : σ[i]?.join = some u := S.slot i _ q
    have e' : σ[i]? = some (some u) := by
      cases z : σ[i]? with
      | none => rw [z] at e; cases e
      | some o => rw [z] at e; simp at e; rw [e]
    exact ⟨u, e', h G H Stp.refl S u rfl⟩
  · rename_i o q
    obtain ⟨v, e, hd⟩ := S.slot i _ q
    have e' : σ[i]? = some (some v) := by
      cases z : σ[i]? with
      | none => rw [z] at e; cases e
      | some o => rw [z] at e; simp at e; rw [e]
    exact ⟨v, e', h G H Stp.refl S v hd⟩
  · rename_i ds q
    obtain ⟨a, xs, e, ha, hd⟩ := S.slot i _ q
    have e' : σ[i]? = some (some (.ref a)) := by
      cases z : σ[i]? with
      | none => rw [z] at e; cases e
      | some o => rw [z] at e; simp at e; rw [e]
    exact ⟨_, e', h G H Stp.refl S _ e'⟩
  · exact h.elim
def fC (d : PyData) : M R := ret (.val d)
theorem d_c {e : Expr} {d : PyData} {v : V} (hd : ∀ G, Rp X.K G v d) (h : PE X e (tC v)) : DE X cl W e (fC d) :=
  pe_imp h fun σ H Q ⟨G, s, S, q⟩ => q G H Stp.refl S v (hd G)
theorem d_int {i j pos} : DE X cl W (.Constant (.int i) j pos) (fC (.int i)) := d_c (fun _ => .int i) pe_int
theorem d_bl {b j pos} : DE X cl W (.Constant (.bool b) j pos) (fC (.bool b)) := d_c (fun _ => .bl b) pe_bl
theorem d_non {j pos} : DE X cl W (.Constant .none j pos) (fC .none) := d_c (fun _ => .non) pe_non
theorem d_str {x j pos} : DE X cl W (.Constant (.str x) j pos) (fC (.str x)) := d_c (fun _ => .str x) pe_str
theorem d_globI {x : Str} {i : Int} {t : Tok} {pos : Pos} (hg : Gl X x) (hm : X.mg x = some (.int i t)) (hd : (x == ("__debug__" : Str)) = false := by decide) : DE X cl W (.Name x pos) (fC (.int i)) := d_c (fun _ => .int i) (pe_glob (v := .int i) hg hm ⟨t, rfl⟩ hd)
theorem d_globS {x : Str} {i : Str} {t : Tok} {pos : Pos} (hg : Gl X x) (hm : X.mg x = some (.str i t)) (hd : (x == ("__debug__" : Str)) = false := by decide) : DE X cl W (.Name x pos) (fC (.str i)) := d_c (fun _ => .str i) (pe_glob (v := .str i) hg hm ⟨t, rfl⟩ hd)
def fRaw (v : V) : M R := ret (.raw v)
/-! ### operators -/
def OpS (K : PySem.W.Frag) (rl : R2) (o : R → R → M R) : Prop := ∀ (cl : String → Addr) (W : WX) (G : Hp) (s : DSt) (σ : L2.St) (H H0 : Hp) (v1 v2 : V) (r1 r2 : R) (Q : VK), SA K G s σ H → RRel K H0 G s σ H v1 r1 → RRel K H0 G s σ H v2 r2 →
  (Out K cl W G s σ H (o r1 r2 s) fun r G' s' H' => ∀ v, RRel K H G' s' σ H' v r → Q v H') → rl v1 v2 H Q
def fOp (o : R → R → M R) (f g : M R) : M R := bnd f fun x => bnd g fun y => o x y
theorem d_op2 {e : Expr} {a b : Expr} {f g : M R} {rl : R2} {o : R → R → M R} (h : ∀ {ta tb : TE}, PE X a ta → PE X b tb → PE X e (tOp rl ta tb)) (ho : OpS X.K rl o) (ha : DE X cl W a f) (hb : DE X cl W b g) : DE X cl W e (fOp o f g) := by
  refine pe_imp (h ha hb) fun σ H Q ⟨G, s, S, q⟩ => ?_
  refine ⟨G, s, S, out_mono (out_bind q) fun x G1 s1 H1 st1 S1 q1 v1 r1 => ⟨G1, s1, S1, ?_⟩⟩
  refine out_mono (out_bind q1) fun y G2 s2 H2 st2 S2 q2 v2 r2 => ?_
  refine ho cl W G2 s2 σ H2 H v1 v2 x y Q S2 (r1.mono st2) (r2.less st1.dom) (out_less (st1.trans st2).dom q2)
theorem OpR.or' {f : Value → Value → Sem Value} {r r' : R2} (h : OpR X f r) (h' : OpR X f r') : OpR X f (fun x y H Q => r x y H Q ∨ r' x y H Q) := by
  intro pins s σ H x y v u Q I rx ry q
  rcases q with q | q
  · exact h pins s σ H x y v u Q I rx ry q
  · exact h' pins s σ H x y v u Q I rx ry q
theorem SA.ownL {K : PySem.W.Frag} {G H : Hp} {s : DSt} {σ : L2.St} {i : Nat} {a : Addr} (S : SA K G s σ H) (z : OwnAt s σ i a) : ∃ xs, H a = some (.lst xs) := by
  obtain ⟨⟨es, e⟩, e2⟩ := z
  obtain ⟨b, xs, e3, ha, _⟩ := S.slot i _ e
  rw [e2] at e3
  cases e3
  exact ⟨xs, ha⟩
theorem SA.ownH {K : PySem.W.Frag} {G H : Hp} {s : DSt} {σ : L2.St} {a : Addr} (S : SA K G s σ H) (z : Own s σ a) : (∃ xs, H a = some (.lst xs)) ∨ ∃ ps, H a = some (.tbl ps) := by
  rcases z with ⟨i, z⟩ | z
  · exact .inl (S.ownL z)
  · exact H_pown S.pw z
theorem SA.ownS {K : PySem.W.Frag} {G H : Hp} {s : DSt} {σ : L2.St} {a : Addr} (S : SA K G s σ H) (z : Own s σ a) : ∃ o, H a = some o ∧ ∀ φ, o ≠ .ext φ := by
  rcases S.ownH z with ⟨xs, e⟩ | ⟨ps, e⟩
  · exact ⟨_, e, fun _ => nofun⟩
  · exact ⟨_, e, fun _ => nofun⟩
theorem new_list {K : PySem.W.Frag} {G H H0 : Hp} {s : DSt} {σ : L2.St} {p : Addr} {vs : List V} {ds : List PyData} (S : SA K G s σ H) (hp : H p = none) (hd : RpAll K G vs ds) (dm : ∀ a, H0 a ≠ none → H a ≠ none) :
    Stp G s σ H G s σ (upd H p (.lst vs)) ∧ SA K G s σ (upd H p (.lst vs)) ∧ RRel K H0 G s σ (upd H p (.lst vs)) (.ref p) (.new ds) := by
  have ne : ∀ a o, H a = some o → a ≠ p := fun a o h => ne_of_none h hp
  have up : ∀ a o, H a = some o → upd H p (.lst vs) a = some o := fun a o h => by rw [upd_ne (ne a o h)]; exact h
  have gp : G p = none := Evl.fresh_back S.gh hp
  refine ⟨⟨Ex.refl G, fun a o h _ => ⟨up a o h, rfl⟩, fun a z => .inl z, fun a h => ?_, fun _ h => h⟩, ⟨S.len, S.gh.trans fun a o h => up a o h, fun i sl h => ?_, S.inj, S.ownG, ?_, S.pne⟩, ⟨p, vs, rfl, upd_same, hd, gp, ?_, ?_⟩⟩
  · obtain ⟨o, e⟩ := Option.ne_none_iff_exists'.mp h
    rw [up a o e]; simp
  · have q := S.slot i sl h
    cases sl with
    | no => trivial
    | val d => exact q
    | raw v => exact q
    | ob o => exact q
    | own es => obtain ⟨a, xs, e, ha, hh⟩ := q; exact ⟨a, xs, e, up a _ ha, hh⟩
  · exact pwok_to S.pw (fun a o h _ => up a o h) (fun a φ h => up a _ h) fun a z => G_pown S.pw z
  · exact Classical.byContradiction fun q => dm p q hp
  · intro z
    obtain ⟨xs, e, _⟩ := S.ownS z
    rw [hp] at e; cases e
theorem new_known {K : PySem.W.Frag} {G H : Hp} {s : DSt} {σ : L2.St} {p : Addr} (o : HO) (S : SA K G s σ H) (hp : H p = none) :
    Stp G s σ H (upd G p o) s σ (upd H p o) ∧ SA K (upd G p o) s σ (upd H p o) := by
  have up : ∀ a u, H a = some u → upd H p o a = some u := fun a u h => by rw [upd_ne (ne_of_none h hp)]; exact h
  have gp : G p = none := Evl.fresh_back S.gh hp
  have ug : Ex G (upd G p o) := Ex.new gp
  have nown : ∀ a, Own s σ a → a ≠ p := by
    rintro a z rfl
    obtain ⟨xs, e, _⟩ := S.ownS z
    rw [hp] at e; cases e
  refine ⟨⟨ug, fun a u h _ => ⟨up a u h, by rw [upd_ne (ne_of_none h hp)]⟩, fun a z => .inl z, fun a h => ?_, fun _ h => h⟩, ⟨S.len, fun a u h => ?_, fun i sl h => ?_, S.inj, fun i a z => ?_, ?_, S.pne⟩⟩
  · obtain ⟨u, e⟩ := Option.ne_none_iff_exists'.mp h
    rw [up a u e]; simp
  · by_cases e : a = p
    · subst e; rw [upd_same] at h ⊢; exact h
    · rw [upd_ne e] at h ⊢; exact S.gh a u h
  · have q := S.slot i sl h
    cases sl with
    | no => trivial
    | val d => obtain ⟨v, e, hd⟩ := q; exact ⟨v, e, dp_mono ug _ _ hd⟩
    | raw v => exact q
    | ob o => obtain ⟨v, e, hd⟩ := q; exact ⟨v, e, ob_mono ug hd⟩
    | own es => obtain ⟨a, xs, e, ha, hh⟩ := q; exact ⟨a, xs, e, up a _ ha, dps_mono ug _ _ hh⟩
  · rw [upd_ne (nown a (.inl ⟨i, z⟩))]; exact S.ownG i a z
  · exact pwok_to S.pw (fun a o h _ => up a o h) (fun a φ h => up a _ h) fun a z => by rw [upd_ne (nown a (.inr z))]; exact G_pown S.pw z
end
end DL

/-! DL3: operators on data -/
noncomputable section
namespace DL
open PySem L2 PyProof.Rows
open Evl (Ex)

def Dq (K : PySem.W.Frag) (G H : Hp) (v : V) (d : PyData) : Prop := match d with
  | .list ds => ∃ a xs, v = .ref a ∧ H a = some (.lst xs) ∧ RpAll K G xs ds
  | d => Rp K G v d
theorem Dq.of {K : PySem.W.Frag} {G H : Hp} {v : V} : ∀ {d : PyData}, Ex G H → Rp K G v d → Dq K G H v d
  | .list ds, e, h => by cases h with | lst hs ha => exact ⟨_, _, rfl, e _ _ hs, ha⟩
  | .none, _, h | .bool _, _, h | .int _, _, h | .str _, _, h | .tuple _, _, h | .dict _, _, h => h
theorem Dq.rp {K : PySem.W.Frag} {G H : Hp} {v : V} : ∀ {d : PyData}, Ex G H → Dq K G H v d → Rp K H v d
  | .list ds, e, h => by obtain ⟨a, xs, rfl, ha, hd⟩ := h; exact .lst ha (dps_mono e _ _ hd)
  | .none, e, h | .bool _, e, h | .int _, e, h | .str _, e, h | .tuple _, e, h | .dict _, e, h => dp_mono e _ _ h
theorem look_q {K : PySem.W.Frag} {H0 G H : Hp} {s : DSt} {σ : L2.St} {v : V} {r : R} {d : PyData} (S : SA K G s σ H) (h : RRel K H0 G s σ H v r) (e : look r s = some d) : Dq K G H v d := by
  cases r with
  | val d' => cases e; exact .of S.gh h
  | raw u => cases e
  | ob o => cases e
  | new ds =>
    cases e
    obtain ⟨a, xs, rfl, ha, hd, _⟩ := h
    exact ⟨a, xs, rfl, ha, hd⟩
  | slot i =>
    simp only [look] at e
    have h' : σ[i]? = some (some v) := h
    split at e
    · rename_i ds q
      cases e
      obtain ⟨a, xs, e1, ha, hd⟩ := S.slot i _ q
      rw [h'] at e1
      cases e1
      exact ⟨a, xs, rfl, ha, hd⟩
    · rename_i d' q
      cases e
      obtain ⟨u, e1, hd⟩ := S.slot i _ q
      rw [h'] at e1
      cases e1
      exact .of S.gh hd
    · cases e
theorem dq_int {K : PySem.W.Frag} {G H : Hp} {v : V} {i : Int} (h : Dq K G H v (.int i)) : v = .int i := by cases (show Rp K G v (.int i) from h); rfl
theorem dq_bl {K : PySem.W.Frag} {G H : Hp} {v : V} {i : Bool} (h : Dq K G H v (.bool i)) : v = .bl i := by cases (show Rp K G v (.bool i) from h); rfl
theorem dq_str {K : PySem.W.Frag} {G H : Hp} {v : V} {i : Str} (h : Dq K G H v (.str i)) : v = .str i := by cases (show Rp K G v (.str i) from h); rfl
theorem dq_lst {K : PySem.W.Frag} {G H : Hp} {v : V} {ds : List PyData} (h : Dq K G H v (.list ds)) : ∃ a xs, v = .ref a ∧ H a = some (.lst xs) ∧ RpAll K G xs ds := h
theorem dq_tup {K : PySem.W.Frag} {G H : Hp} {v : V} {ds : List PyData} (x : Ex G H) (h : Dq K G H v (.tuple ds)) : ∃ a xs, v = .ref a ∧ SqT K H a xs ∧ RpAll K G xs ds ∧ Rp K G v (.tuple ds) := by
  have h' : Rp K G v (.tuple ds) := h
  cases id h' with
  | tup hs ha => exact ⟨_, _, rfl, .of (x _ _ hs), ha, h'⟩
def Ans (K : PySem.W.Frag) (G H : Hp) (r : R) (Q : VK) : Prop := match r with
  | .val d => (∀ v, Rp K G v d → Q v H) ∧ ∀ ds p vs, d = .tuple ds → H p = none → RpAll K G vs ds → Q (.ref p) (upd H p (.tup vs))
  | .new ds => ∀ p vs, H p = none → RpAll K G vs ds → Q (.ref p) (upd H p (.lst vs))
  | .raw v => Q v H
  | .ob o => (∀ v, ObRel K G v o → Q v H) ∧ (∀ kvs p vs, o = .dict kvs → H p = none → KRp K G vs kvs → Q (.ref p) (upd H p (.dK vs))) ∧ ∀ S n p, o = .set S n → H p = none → Q (.ref p) (upd H p (.set S n))
  | .slot _ => False
theorem ans_of {K : PySem.W.Frag} {cl : String → Addr} {W : WX} {G H H0 : Hp} {s : DSt} {σ : L2.St} {r : R} {Q : VK} (S : SA K G s σ H) (dm : ∀ a, H0 a ≠ none → H a ≠ none) (hr : ∀ i, r ≠ .slot i)
    (h : Out K cl W G s σ H (.ok r s) fun r G' s' H' => ∀ v, RRel K H0 G' s' σ H' v r → Q v H') : Ans K G H r Q := by
  cases r with
  | val d =>
    refine ⟨fun v q => h G H Stp.refl S v q, fun ds p vs e hp hd => ?_⟩
    subst e
    obtain ⟨st, sa⟩ := new_known (.tup vs) S hp
    refine h _ _ st sa _ ?_
    exact .tup upd_same (dps_mono st.ex _ _ hd)
  | new ds =>
    intro p vs hp hd
    obtain ⟨st, sa, rr⟩ := new_list S hp hd dm
    exact h _ _ st sa _ rr
  | raw v => exact h G H Stp.refl S v rfl
  | ob o =>
    refine ⟨fun v q => h G H Stp.refl S v q, fun kvs p vs e hp hd => ?_, fun S' n p e hp => ?_⟩
    · subst e
      obtain ⟨st, sa⟩ := new_known (.dK vs) S hp
      exact h _ _ st sa _ ⟨p, vs, rfl, upd_same, krp_mono st.ex hd⟩
    · subst e
      obtain ⟨st, sa⟩ := new_known (.set S' n) S hp
      exact h _ _ st sa _ ⟨p, rfl, upd_same⟩
  | slot i => exact (hr i rfl).elim
def lift1 (o : PyData → Option R) : R → M R := fun x s => match look x s with
  | some d => match o d with
    | some (.slot _) => .stuck
    | some r => .ok r s
    | none => .stuck
  | none => .stuck
def lift2 (o : PyData → PyData → Option R) : R → R → M R := fun x y s => match look x s, look y s with
  | some d, some e => match o d e with
    | some (.slot _) => .stuck
    | some r => .ok r s
    | none => .stuck
  | _, _ => .stuck
def OpD (K : PySem.W.Frag) (rl : R2) (o : PyData → PyData → Option R) : Prop := ∀ (G H : Hp) (x y : V) (d e : PyData) (r : R) (Q : VK), Ex G H → Dq K G H x d → Dq K G H y e → o d e = some r → Ans K G H r Q → rl x y H Q
theorem ops_lift {K : PySem.W.Frag} {rl : R2} {o : PyData → PyData → Option R} (h : OpD K rl o) : OpS K rl (lift2 o) := by
  intro cl W G s σ H H0 v1 v2 r1 r2 Q S q1 q2 k
  unfold lift2 at k
  split at k
  · rename_i d e e1 e2
    split at k
    · exact k.elim
    · rename_i r ns ho
      exact h G H v1 v2 d e r Q S.gh (look_q S q1 e1) (look_q S q2 e2) ho (ans_of S (fun a z => z) (fun i z => ns i z) k)
    · exact k.elim
  · exact k.elim

/-! ### sums, products .. -/
def addO : PyData → PyData → Option R
  | .int i, .int j => some (.val (.int (i + j)))
  | .list a, .list b => if leS (a.length + b.length) then some (.new (a ++ b)) else none
  | .str a, .str b => if leS (a.length + b.length) then some (.val (.str (a ++ b))) else none
  | .tuple a, .tuple b => if leS (a.length + b.length) then some (.val (.tuple (a ++ b))) else none
  | _, _ => none
def rAddA (K : PySem.W.Frag) : R2 := fun x y H Q => rI0 (fun i j => .int (i + j)) x y H Q ∨ (rCat x y H Q ∨ ((∃ i j, x = .str i ∧ y = .str j ∧ i.length + j.length ≤ sizeLine ∧ Q (.str (i ++ j)) H) ∨ rCatA K x y H Q))
theorem opd_add {K : PySem.W.Frag} : OpD K (rAddA K) addO := by
  intro G H x y d e r Q ex hx hy ho k
  unfold addO at ho
  split at ho
  · cases ho
    obtain rfl := dq_int hx
    obtain rfl := dq_int hy
    exact .inl ⟨_, _, rfl, rfl, k.1 _ (.int _)⟩
  · split at ho
    · cases ho
      rename_i a b hl
      obtain ⟨p, xs, rfl, hp, hpx⟩ := dq_lst hx
      obtain ⟨q, ys, rfl, hq, hqx⟩ := dq_lst hy
      exact .inr (.inl ⟨p, q, xs, ys, rfl, rfl, hp, hq, by rw [dps_len hpx, dps_len hqx]; exact hl, fun l hl => k l _ hl (dps_app hpx hqx)⟩)
    · cases ho
  · split at ho
    · cases ho
      obtain rfl := dq_str hx
      obtain rfl := dq_str hy
      exact .inr (.inr (.inl ⟨_, _, rfl, rfl, by assumption, k.1 _ (.str _)⟩))
    · cases ho
  · split at ho
    · cases ho
      rename_i a b hl
      obtain ⟨p, xs, rfl, hp, hpx, h1⟩ := dq_tup ex hx
      obtain ⟨q, ys, rfl, hq, hqx, h2⟩ := dq_tup ex hy
      refine .inr (.inr (.inr ⟨p, q, xs, ys, rfl, rfl, hp, hq, by rw [dps_len hpx, dps_len hqx]; exact hl, fun z => ?_, fun _ z => ?_, fun _ _ l hl => k.2 _ l _ rfl hl (dps_app hpx hqx)⟩))
      · subst z
        cases hpx
        exact k.1 _ h2
      · subst z
        cases hqx
        simp only [List.append_nil] at k
        exact k.1 _ h1
    · cases ho
  · cases ho
def subO : PyData → PyData → Option R
  | .int i, .int j => some (.val (.int (i - j)))
  | _, _ => none
theorem opd_sub {K : PySem.W.Frag} : OpD K (rI0 fun i j => .int (i - j)) subO := by
  intro G H x y d e r Q ex hx hy ho k
  unfold subO at ho
  split at ho
  · cases ho
    obtain rfl := dq_int hx
    obtain rfl := dq_int hy
    exact ⟨_, _, rfl, rfl, k.1 _ (.int _)⟩
  · cases ho
def mulO : PyData → PyData → Option R
  | .int i, .int j => if lgM i j then some (.val (.int (i * j))) else none
  | .list a, .int k => if inW k ∧ leS (a.length * k.toNat) then some (.new (List.replicate k.toNat a).flatten) else none
  | _, _ => none
theorem dps_rep {K : PySem.W.Frag} {H : Hp} {ds : List PyData} {vs : List V} (h : RpAll K H vs ds) : ∀ n, RpAll K H (List.replicate n vs).flatten (List.replicate n ds).flatten
  | 0 => .nil
  | n + 1 => by
    rw [List.replicate_succ, List.replicate_succ, List.flatten_cons, List.flatten_cons]
    exact dps_app h (dps_rep h n)
def rMulA : R2 := fun x y H Q => rI CMulW (fun i j => .int (i * j)) x y H Q ∨ rRep x y H Q
theorem opd_mul {K : PySem.W.Frag} : OpD K rMulA mulO := by
  intro G H x y d e r Q ex hx hy ho k
  unfold mulO at ho
  split at ho
  · split at ho
    · cases ho
      obtain rfl := dq_int hx
      obtain rfl := dq_int hy
      exact .inl ⟨_, _, rfl, rfl, by assumption, k.1 _ (.int _)⟩
    · cases ho
  · split at ho
    · cases ho
      rename_i a n hl
      obtain ⟨p, xs, rfl, hp, hpx⟩ := dq_lst hx
      obtain rfl := dq_int hy
      exact .inr ⟨p, n, xs, rfl, rfl, hp, hl.1.1, hl.1.2, by rw [dps_len hpx]; exact hl.2, fun l hl => k l _ hl (dps_rep hpx _)⟩
    · cases ho
  · cases ho
def fdivO : PyData → PyData → Option R
  | .int i, .int j => if 0 < j ∧ lgD j then some (.val (.int (i / j))) else none
  | _, _ => none
theorem opd_fdiv {K : PySem.W.Frag} : OpD K (rI CDivW fun i j => .int (i / j)) fdivO := by
  intro G H x y d e r Q ex hx hy ho k
  unfold fdivO at ho
  split at ho
  · split at ho
    · cases ho
      obtain rfl := dq_int hx
      obtain rfl := dq_int hy
      exact ⟨_, _, rfl, rfl, by assumption, k.1 _ (.int _)⟩
    · cases ho
  · cases ho
def modO : PyData → PyData → Option R
  | .int i, .int j => if 0 < j then some (.val (.int (i % j))) else none
  | _, _ => none
theorem opd_mod {K : PySem.W.Frag} : OpD K (rI (fun _ j => 0 < j) fun i j => .int (i % j)) modO := by
  intro G H x y d e r Q ex hx hy ho k
  unfold modO at ho
  split at ho
  · split at ho
    · cases ho
      obtain rfl := dq_int hx
      obtain rfl := dq_int hy
      exact ⟨_, _, rfl, rfl, by assumption, k.1 _ (.int _)⟩
    · cases ho
  · cases ho
def powO : PyData → PyData → Option R
  | .int i, .int j => if 0 ≤ j ∧ leP j ∧ lgP i then some (.val (.int (i ^ j.toNat))) else none
  | _, _ => none
def CPowW (i j : Int) : Prop := 0 ≤ j ∧ j ≤ 30000 ∧ i.natAbs.log2 < 4000
theorem bits_log (i : Int) : Builtin.Int.intBits i ≤ i.natAbs.log2 + 1 := by
  unfold Builtin.Int.intBits
  split <;> omega
theorem op_powW {X : Cx} : OpR X (binaryOp .Pow) (rI CPowW fun i j => .int (i ^ j.toNat)) := by
  intro pins s σ H x y v u Q I r1 r2 h
  obtain ⟨i, j, rfl, rfl, hc, q⟩ := h
  obtain ⟨t, rfl⟩ := r1
  obtain ⟨t', rfl⟩ := r2
  refine pow_int hc.1 ?_ ⟨.int _, H, I.tok _, ⟨_, rfl⟩, q⟩
  have h1 := bits_log i
  have h2 : (Builtin.Int.intBits i : Int) ≤ 4000 := by have := hc.2.2; omega
  have h3 : (Builtin.Int.intBits i : Int) * j ≤ 4000 * 30000 := Int.mul_le_mul h2 hc.2.1 hc.1 (by decide)
  have : (4000 * 30000 : Int) ≤ 2 ^ 27 := by decide
  omega
theorem opd_pow {K : PySem.W.Frag} : OpD K (rI CPowW fun i j => .int (i ^ j.toNat)) powO := by
  intro G H x y d e r Q ex hx hy ho k
  unfold powO at ho
  split at ho
  · split at ho
    · cases ho
      obtain rfl := dq_int hx
      obtain rfl := dq_int hy
      exact ⟨_, _, rfl, rfl, by assumption, k.1 _ (.int _)⟩
    · cases ho
  · cases ho

/-! ### comparisons -/
def ltO : PyData → PyData → Option R
  | .int i, .int j => some (.val (.bool (decide (i < j))))
  | _, _ => none
def leO : PyData → PyData → Option R
  | .int i, .int j => some (.val (.bool (decide (i ≤ j))))
  | _, _ => none
def gtO : PyData → PyData → Option R
  | .int i, .int j => some (.val (.bool (decide (j < i))))
  | _, _ => none
def geO : PyData → PyData → Option R
  | .int i, .int j => some (.val (.bool (decide (j ≤ i))))
  | _, _ => none
theorem opd_cmpI {K : PySem.W.Frag} {p : Int → Int → Bool} {o : PyData → PyData → Option R} (h1 : ∀ i j, o (.int i) (.int j) = some (.val (.bool (p i j)))) (h2 : ∀ d e r, o d e = some r → ∃ i j, d = .int i ∧ e = .int j) :
    OpD K (rI0 fun i j => .bl (p i j)) o := by
  intro G H x y d e r Q ex hx hy ho k
  obtain ⟨i, j, rfl, rfl⟩ := h2 d e r ho
  rw [h1] at ho
  cases ho
  obtain rfl := dq_int hx
  obtain rfl := dq_int hy
  exact ⟨_, _, rfl, rfl, k.1 _ (.bl _)⟩
theorem opd_lt {K : PySem.W.Frag} : OpD K (rI0 fun i j => .bl (decide (i < j))) ltO := opd_cmpI (fun _ _ => rfl) fun d e r h => by unfold ltO at h; split at h <;> simp_all
theorem opd_le {K : PySem.W.Frag} : OpD K (rI0 fun i j => .bl (decide (i ≤ j))) leO := opd_cmpI (fun _ _ => rfl) fun d e r h => by unfold leO at h; split at h <;> simp_all
theorem opd_gt {K : PySem.W.Frag} : OpD K (rI0 fun i j => .bl (decide (j < i))) gtO := opd_cmpI (fun _ _ => rfl) fun d e r h => by unfold gtO at h; split at h <;> simp_all
theorem opd_ge {K : PySem.W.Frag} : OpD K (rI0 fun i j => .bl (decide (j ≤ i))) geO := opd_cmpI (fun _ _ => rfl) fun d e r h => by unfold geO at h; split at h <;> simp_all
def rEqP (K : PySem.W.Frag) (neg : Bool) : R2 := fun x y H Q => ∃ d e, Dp K H x d ∧ Dp K H y e ∧ d.plain = true ∧ e.plain = true ∧ min d.depth e.depth ≤ 60 ∧ Q (.bl (if neg then !PyData.eqv d e else PyData.eqv d e)) H
section
variable {X : Cx}
theorem op_eqP (hu : X.A.units + 64 < cLine) : OpR X (compareOp .Eq) (rEqP X.K false) := by
  intro pins s σ H x y v u Q I rx ry h
  obtain ⟨d, e, hd, he, sd, se, dm, q⟩ := h
  obtain ⟨as, r1⟩ := Dp.reads I d x v hd rx
  obtain ⟨bs, r2⟩ := Dp.reads I e y u he ry
  exact SeqAt.eq_plain r1 r2 sd se (by omega) ⟨.bl _, H, I, rfl, q⟩
theorem op_neP (hu : X.A.units + 64 < cLine) : OpR X (compareOp .NotEq) (rEqP X.K true) := by
  intro pins s σ H x y v u Q I rx ry h
  obtain ⟨d, e, hd, he, sd, se, dm, q⟩ := h
  obtain ⟨as, r1⟩ := Dp.reads I d x v hd rx
  obtain ⟨bs, r2⟩ := Dp.reads I e y u he ry
  exact SeqAt.ne_plain r1 r2 sd se (by omega) ⟨.bl _, H, I, rfl, q⟩
end
def eqO (d e : PyData) : Option R := if min d.depth e.depth ≤ 60 then some (.val (.bool (PyData.eqv d e))) else none
def neO (d e : PyData) : Option R := if min d.depth e.depth ≤ 60 then some (.val (.bool (!PyData.eqv d e))) else none
theorem opd_eq {K : PySem.W.Frag} : OpD K (rEqP K false) eqO := by
  intro G H x y d e r Q ex hx hy ho k
  unfold eqO at ho
  split at ho
  · cases ho
    have h1 := hx.rp ex
    have h2 := hy.rp ex
    exact ⟨d, e, rp_dp _ _ h1, rp_dp _ _ h2, rp_plain _ _ h1, rp_plain _ _ h2, by assumption, k.1 _ (.bl _)⟩
  · cases ho
theorem opd_ne {K : PySem.W.Frag} : OpD K (rEqP K true) neO := by
  intro G H x y d e r Q ex hx hy ho k
  unfold neO at ho
  split at ho
  · cases ho
    have h1 := hx.rp ex
    have h2 := hy.rp ex
    exact ⟨d, e, rp_dp _ _ h1, rp_dp _ _ h2, rp_plain _ _ h1, rp_plain _ _ h2, by assumption, k.1 _ (.bl _)⟩
  · cases ho
def rInP (K : PySem.W.Frag) (neg : Bool) : R2 := fun x y H Q => ∃ d ds, Dp K H x d ∧ (Dp K H y (.list ds) ∨ Dp K H y (.tuple ds)) ∧ d.plain = true ∧ PyData.plainAll ds = true ∧ min (PyData.depthAll ds) d.depth ≤ 60 ∧
  Q (.bl (if neg then !ds.any fun z => PyData.eqv z d else ds.any fun z => PyData.eqv z d)) H
section
variable {X : Cx}
theorem op_inP (hu : X.A.units + 64 < cLine) : OpR X (compareOp .In) (rInP X.K false) := by
  intro pins s σ H x y v u Q I rx ry h
  obtain ⟨d, ds, hd, he, sd, se, dm, q⟩ := h
  obtain ⟨as, r1⟩ := Dp.reads I d x v hd rx
  rcases he with he | he
  · obtain ⟨bs, r2⟩ := Dp.reads I _ y u he ry
    exact SeqAt.in_list_data r2 r1 se sd (by omega) ⟨.bl _, H, I, rfl, q⟩
  · obtain ⟨bs, r2⟩ := Dp.reads I _ y u he ry
    exact SeqAt.in_tuple_data r2 r1 se sd (by omega) ⟨.bl _, H, I, rfl, q⟩
end
def items : PyData → Option (List PyData)
  | .list ds => some ds
  | .tuple ds => some ds
  | _ => none
def inO (d e : PyData) : Option R := match items e with
  | some ds => if min (PyData.depthAll ds) d.depth ≤ 60 then some (.val (.bool (ds.any fun z => PyData.eqv z d))) else none
  | none => none
def notInO (d e : PyData) : Option R := match items e with
  | some ds => if min (PyData.depthAll ds) d.depth ≤ 60 then some (.val (.bool (!ds.any fun z => PyData.eqv z d))) else none
  | none => none
theorem items_dp {K : PySem.W.Frag} {H : Hp} {v : V} {e : PyData} {ds : List PyData} (h : Rp K H v e) (q : items e = some ds) : (Dp K H v (.list ds) ∨ Dp K H v (.tuple ds)) ∧ PyData.plainAll ds = true := by
  unfold items at q
  split at q
  · cases q
    refine ⟨.inl (rp_dp _ _ h), ?_⟩
    have := rp_plain _ _ h
    simpa [PyData.plain] using this
  · cases q
    refine ⟨.inr (rp_dp _ _ h), ?_⟩
    have := rp_plain _ _ h
    simpa [PyData.plain] using this
  · cases q
theorem opd_in {K : PySem.W.Frag} : OpD K (rInP K false) inO := by
  intro G H x y d e r Q ex hx hy ho k
  unfold inO at ho
  split at ho
  · rename_i ds hi
    split at ho
    · cases ho
      have h1 := hx.rp ex
      obtain ⟨h2, h3⟩ := items_dp (hy.rp ex) hi
      exact ⟨d, ds, rp_dp _ _ h1, h2, rp_plain _ _ h1, h3, by assumption, k.1 _ (.bl _)⟩
    · cases ho
  · cases ho
/-! ### places -/
def ixO : PyData → PyData → Option R
  | .list ds, .int i => (atI ds i).map .val
  | .tuple ds, .int i => (atI ds i).map .val
  | .str z, .int i => if leS (z.length) then (atI z.cps.toList i).map fun c => .val (.str ⟨#[c]⟩) else none
  | _, _ => none
theorem atI_rp {K : PySem.W.Frag} {G : Hp} {xs : List V} {ds : List PyData} {i : Int} {d : PyData} (h : RpAll K G xs ds) (e : atI ds i = some d) : ∃ v, atI xs i = some v ∧ Rp K G v d := by
  unfold atI at e ⊢
  rw [dps_len h]
  cases q : ixN ds.length i with
  | none => rw [q] at e; cases e
  | some j =>
    rw [q] at e
    have e : ds[j]? = some d := e
    have hj : j < xs.length := by rw [dps_len h]; exact (List.getElem?_eq_some_iff.mp e).1
    obtain ⟨d', e', r⟩ := dps_get h (List.getElem?_eq_getElem hj)
    rw [e] at e'
    cases e'
    exact ⟨xs[j], by simp [hj], r⟩
theorem opd_ix {K : PySem.W.Frag} : OpD K (rIx K) ixO := by
  intro G H x y d e r Q ex hx hy ho k
  unfold ixO at ho
  split at ho
  · rename_i ds i
    cases q : atI ds i with
    | none => rw [q] at ho; cases ho
    | some z =>
      rw [q] at ho
      cases ho
      obtain rfl := dq_int hy
      obtain ⟨p, xs, rfl, hp, hpx⟩ := dq_lst hx
      obtain ⟨v, e1, r1⟩ := atI_rp hpx q
      exact .inl ⟨p, xs, i, v, rfl, rfl, .of hp, e1, k.1 _ r1⟩
  · rename_i ds i
    cases q : atI ds i with
    | none => rw [q] at ho; cases ho
    | some z =>
      rw [q] at ho
      cases ho
      obtain rfl := dq_int hy
      obtain ⟨p, xs, rfl, hp, hpx, _⟩ := dq_tup ex hx
      obtain ⟨v, e1, r1⟩ := atI_rp hpx q
      exact .inr (.inl ⟨p, xs, i, v, rfl, rfl, hp, e1, k.1 _ r1⟩)
  · rename_i z i
    split at ho
    · cases q : atI z.cps.toList i with
      | none => rw [q] at ho; cases ho
      | some c =>
        rw [q] at ho
        cases ho
        obtain rfl := dq_int hy
        obtain rfl := dq_str hx
        exact .inr (.inr ⟨z, i, c, rfl, rfl, by assumption, q, k.1 _ (.str _)⟩)
    · cases ho
  · cases ho
section
variable {X : Cx} {cl : String → Addr} {W : WX} {a b : Expr} {f g : M R} {pos : Pos}
theorem d_add (ha : DE X cl W a f) (hb : DE X cl W b g) : DE X cl W (.BinOp a .Add b pos) (fOp (lift2 addO) f g) := d_op2 (pe_op (OpR.or' op_add (OpR.or' op_cat (OpR.or' op_add_str op_catA)))) (ops_lift opd_add) ha hb
theorem d_sub (ha : DE X cl W a f) (hb : DE X cl W b g) : DE X cl W (.BinOp a .Sub b pos) (fOp (lift2 subO) f g) := d_op2 (pe_op op_sub) (ops_lift opd_sub) ha hb
theorem d_mul (ha : DE X cl W a f) (hb : DE X cl W b g) : DE X cl W (.BinOp a .Mult b pos) (fOp (lift2 mulO) f g) := d_op2 (pe_op (OpR.or' op_mulW op_rep)) (ops_lift opd_mul) ha hb
theorem d_fdiv (ha : DE X cl W a f) (hb : DE X cl W b g) : DE X cl W (.BinOp a .FloorDiv b pos) (fOp (lift2 fdivO) f g) := d_op2 (pe_op op_fdivW) (ops_lift opd_fdiv) ha hb
theorem d_mod (ha : DE X cl W a f) (hb : DE X cl W b g) : DE X cl W (.BinOp a .Mod b pos) (fOp (lift2 modO) f g) := d_op2 (pe_op op_mod) (ops_lift opd_mod) ha hb
theorem d_pow (ha : DE X cl W a f) (hb : DE X cl W b g) : DE X cl W (.BinOp a .Pow b pos) (fOp (lift2 powO) f g) := d_op2 (pe_op op_powW) (ops_lift opd_pow) ha hb
theorem d_le (ha : DE X cl W a f) (hb : DE X cl W b g) : DE X cl W (.Compare a [.LtE] [b] pos) (fOp (lift2 leO) f g) := d_op2 (fun h1 h2 => pe_cmpR op_le h1 h2 (nomark _)) (ops_lift opd_le) ha hb
theorem d_gt (ha : DE X cl W a f) (hb : DE X cl W b g) : DE X cl W (.Compare a [.Gt] [b] pos) (fOp (lift2 gtO) f g) := d_op2 (fun h1 h2 => pe_cmpR op_gt h1 h2 (nomark _)) (ops_lift opd_gt) ha hb
theorem d_ge (ha : DE X cl W a f) (hb : DE X cl W b g) : DE X cl W (.Compare a [.GtE] [b] pos) (fOp (lift2 geO) f g) := d_op2 (fun h1 h2 => pe_cmpR op_ge h1 h2 (nomark _)) (ops_lift opd_ge) ha hb
theorem d_eq (hu : X.A.units + 64 < cLine) (ha : DE X cl W a f) (hb : DE X cl W b g) : DE X cl W (.Compare a [.Eq] [b] pos) (fOp (lift2 eqO) f g) := d_op2 (fun h1 h2 => pe_cmpR (op_eqP hu) h1 h2 (nomark _)) (ops_lift opd_eq) ha hb
theorem d_in (hu : X.A.units + 64 < cLine) (hm : behindInMarks .In b = false) (ha : DE X cl W a f) (hb : DE X cl W b g) : DE X cl W (.Compare a [.In] [b] pos) (fOp (lift2 inO) f g) := d_op2 (fun h1 h2 => pe_cmpR (op_inP hu) h1 h2 hm) (ops_lift opd_in) ha hb
theorem d_ix (ha : DE X cl W a f) (hb : DE X cl W b g) (hs : PlainIx b) : DE X cl W (.Subscript a b pos) (fOp (lift2 ixO) f g) := d_op2 (fun h1 h2 => pe_ix ix_seq h1 h2 hs) (ops_lift opd_ix) ha hb
end
end DL

/-! DL4: tests, argument lists, displays, statements -/
noncomputable section
namespace DL
open PySem L2 PyProof.Rows
open Evl (Ex)

/-! ### tests -/
def fB (f : M R) : M Bool := bnd f fun r s => match look r s with
  | some (.bool b) => .ok b s
  | _ => .stuck
section
variable {X : Cx} {cl : String → Addr} {W : WX}
theorem test_of {K : PySem.W.Frag} {f : M R} {σ : L2.St} {H : Hp} {Q : Bool → Hp → Prop} (h : tT K cl W (fB f) σ H Q) : tD K cl W f σ H fun x H1 => ∃ k, x = .bl k ∧ Q k H1 := by
  obtain ⟨G, s, S, q⟩ := h
  refine ⟨G, s, S, out_mono (out_bind q) fun r G1 s1 H1 st S1 q1 v rr => ?_⟩
  split at q1
  · rename_i b e
    obtain rfl := dq_bl (look_q S1 rr e)
    exact ⟨b, rfl, q1 G1 H1 Stp.refl S1⟩
  · exact q1.elim
theorem d_tval {e : Expr} {f : M R} (h : DE X cl W e f) (he : ∀ whole, isTrue e X.env whole = (do let v ← whole; standAt e.pos; holding [v] (truthy v)) := by intro _; rfl) : DT X cl W e (fB f) :=
  pt_imp (pt_val h he) fun σ H Q q => test_of q
theorem d_opT {e a b : Expr} {f g : M R} {rl : R2} {o : R → R → M R} (h : ∀ {ta tb : TE}, PE X a ta → PE X b tb → PT X e (tTest (tOp rl ta tb))) (ho : OpS X.K rl o) (ha : DE X cl W a f) (hb : DE X cl W b g) : DT X cl W e (fB (fOp o f g)) := by
  refine pt_imp (h ha hb) fun σ H Q q => ?_
  obtain ⟨G, s, S, q⟩ := test_of q
  refine ⟨G, s, S, out_mono (out_bind q) fun x G1 s1 H1 st1 S1 q1 v1 r1 => ⟨G1, s1, S1, ?_⟩⟩
  refine out_mono (out_bind q1) fun y G2 s2 H2 st2 S2 q2 v2 r2 => ?_
  exact ho cl W G2 s2 σ H2 H v1 v2 x y _ S2 (r1.mono st2) (r2.less st1.dom) (out_less (st1.trans st2).dom q2)
def fAnd (f g : M Bool) : M Bool := bnd f fun b => if b then g else ret false
def fOr (f g : M Bool) : M Bool := bnd f fun b => if b then ret true else g
def fNot (f : M Bool) : M Bool := bnd f fun b => ret (!b)
theorem tand_of {K : PySem.W.Frag} {f g : M Bool} {σ : L2.St} {H : Hp} {Q : Bool → Hp → Prop} (h : tT K cl W (fAnd f g) σ H Q) : tAnd (tT K cl W f) (tT K cl W g) σ H Q := by
  obtain ⟨G, s, S, q⟩ := h
  refine ⟨G, s, S, out_mono (out_bind q) fun b G1 s1 H1 st S1 q1 => ?_⟩
  cases b with
  | true => exact ⟨G1, s1, S1, q1⟩
  | false => exact q1 G1 H1 Stp.refl S1
theorem tor_of {K : PySem.W.Frag} {f g : M Bool} {σ : L2.St} {H : Hp} {Q : Bool → Hp → Prop} (h : tT K cl W (fOr f g) σ H Q) : tOr (tT K cl W f) (tT K cl W g) σ H Q := by
  obtain ⟨G, s, S, q⟩ := h
  refine ⟨G, s, S, out_mono (out_bind q) fun b G1 s1 H1 st S1 q1 => ?_⟩
  cases b with
  | true => exact q1 G1 H1 Stp.refl S1
  | false => exact ⟨G1, s1, S1, q1⟩
theorem d_tnot {a : Expr} {f : M Bool} {pos : Pos} (ha : DT X cl W a f) : DT X cl W (.UnaryOp .Not a pos) (fNot f) := pt_imp (pt_not ha) fun σ H Q ⟨G, s, S, q⟩ =>
  ⟨G, s, S, out_mono (out_bind q) fun b G1 s1 H1 st S1 q1 => q1 G1 H1 Stp.refl S1⟩
theorem w_and1 {a : Expr} {f : M Bool} {pos : Pos} (ha : DT X cl W a f) : DW X cl W (.BoolOp .And [a] pos) f := pw_and1 ha
theorem w_or1 {a : Expr} {f : M Bool} {pos : Pos} (ha : DT X cl W a f) : DW X cl W (.BoolOp .Or [a] pos) f := pw_or1 ha
theorem w_and {a b : Expr} {rest : List Expr} {f g : M Bool} {pos : Pos} (ha : DT X cl W a f) (hb : DW X cl W (.BoolOp .And (b :: rest) pos) g) : DW X cl W (.BoolOp .And (a :: b :: rest) pos) (fAnd f g) := pw_imp (pw_and ha hb) fun σ H Q q => tand_of q
theorem w_or {a b : Expr} {rest : List Expr} {f g : M Bool} {pos : Pos} (ha : DT X cl W a f) (hb : DW X cl W (.BoolOp .Or (b :: rest) pos) g) : DW X cl W (.BoolOp .Or (a :: b :: rest) pos) (fOr f g) := pw_imp (pw_or ha hb) fun σ H Q q => tor_of q
theorem d_tw {e : Expr} {f : M Bool} (h : DW X cl W e f) : DT X cl W e f := PW.pt h
def fV (f : M Bool) : M R := bnd f fun b => ret (.val (.bool b))
def fAndV (f g : M R) : M R := bnd (fB f) fun b => if b then g else ret (.val (.bool false))
def fOrV (f g : M R) : M R := bnd (fB f) fun b => if b then ret (.val (.bool true)) else g
theorem v_one {op} {a : Expr} {f : M R} {pos : Pos} (h : DE X cl W a f) : DE X cl W (.BoolOp op [a] pos) f := pe_one h
theorem v_and {a b : Expr} {rest : List Expr} {f g : M R} {pos : Pos} (ha : DE X cl W a f) (hb : DE X cl W (.BoolOp .And (b :: rest) pos) g) : DE X cl W (.BoolOp .And (a :: b :: rest) pos) (fAndV f g) := by
  refine pe_imp (pe_and ha hb) fun σ H Q q => ?_
  obtain ⟨G, s, S, q⟩ := q
  have q2 : tT X.K cl W (fB f) σ H fun b H1 => if b = true then tD X.K cl W g σ H1 Q else Q (.bl false) H1 := by
    refine ⟨G, s, S, out_mono (out_bind q) fun b G1 s1 H1 st S1 k => ?_⟩
    cases b with
    | true => exact ⟨G1, s1, S1, out_less st.dom k⟩
    | false => exact k G1 H1 Stp.refl S1 _ (.bl false)
  exact test_of q2
theorem v_not {a : Expr} {f : M R} {pos : Pos} (ha : DE X cl W a f) : DE X cl W (.UnaryOp .Not a pos) (fV (fNot (fB f))) := by
  refine pe_imp (pe_not ha) fun σ H Q q => ?_
  obtain ⟨G, s, S, q⟩ := q
  have q2 : tT X.K cl W (fB f) σ H fun b H1 => Q (.bl (!b)) H1 := by
    refine ⟨G, s, S, out_mono (out_bind (out_bind q)) fun b G1 s1 H1 st S1 k => ?_⟩
    exact k G1 H1 Stp.refl S1 G1 H1 Stp.refl S1 _ (.bl _)
  exact test_of q2
def fIf (c : M Bool) (f g : M R) : M R := bnd c fun b => if b then f else g
/-! ### what is handed on: known from then on -/
def AR (K : PySem.W.Frag) (G : Hp) (v : V) : R → Prop
  | .val d => Rp K G v d
  | .raw u => v = u
  | .ob o => ObRel K G v o
  | _ => False
def esc (r : R) (s : DSt) : Option (R × DSt) := match r with
  | .val d => some (.val d, s)
  | .raw v => some (.raw v, s)
  | .ob o => some (.ob o, s)
  | .new ds => some (.val (.list ds), s)
  | .slot i => match s.d[i]? with
    | some (.own ds) => some (.val (.list ds), { s with d := s.d.set i (.val (.list ds)) })
    | some (.val d) => some (.val d, s)
    | _ => none
theorem know {K : PySem.W.Frag} {G H : Hp} {s : DSt} {σ : L2.St} {a : Addr} {xs : List V} {ds : List PyData} (S : SA K G s σ H) (ha : H a = some (.lst xs)) (hd : RpAll K G xs ds) (hg : G a = none) (hn : ¬ Own s σ a) :
    Ex G (upd G a (.lst xs)) ∧ SA K (upd G a (.lst xs)) s σ H ∧ Rp K (upd G a (.lst xs)) (.ref a) (.list ds) := by
  have ug : Ex G (upd G a (.lst xs)) := Ex.new hg
  refine ⟨ug, ⟨S.len, fun b u h => ?_, fun i sl h => ?_, S.inj, fun i b z => ?_, ?_, S.pne⟩, .lst upd_same (dps_mono ug _ _ hd)⟩
  · by_cases e : b = a
    · subst e; rw [upd_same] at h; rw [ha]; exact h
    · rw [upd_ne e] at h; exact S.gh b u h
  · have q := S.slot i sl h
    cases sl with
    | no => trivial
    | val d => obtain ⟨v, e, hd⟩ := q; exact ⟨v, e, dp_mono ug _ _ hd⟩
    | raw v => exact q
    | ob o => obtain ⟨v, e, hd⟩ := q; exact ⟨v, e, ob_mono ug hd⟩
    | own es => obtain ⟨b, ys, e, hb, hh⟩ := q; exact ⟨b, ys, e, hb, dps_mono ug _ _ hh⟩
  · rw [upd_ne fun e => hn (by subst e; exact .inl ⟨i, z⟩)]; exact S.ownG i b z
  · exact pwok_to S.pw (fun a o h _ => h) (fun a φ h => h) fun b z => by rw [upd_ne fun q => hn (by subst q; exact .inr z)]; exact G_pown S.pw z
theorem own_set {s : DSt} {σ : L2.St} {i j : Nat} {d : PyData} {a : Addr} : OwnAt { s with d := s.d.set i (.val d) } σ j a ↔ j ≠ i ∧ OwnAt s σ j a := by
  constructor
  · rintro ⟨⟨ds, e⟩, h⟩
    by_cases q : j = i
    · subst q
      simp only [List.getElem?_set] at e
      split at e
      · split at e <;> cases e
      · rename_i z; simp at z
    · simp only [List.getElem?_set_ne (Ne.symm q)] at e
      exact ⟨q, ⟨ds, e⟩, h⟩
  · rintro ⟨q, ⟨ds, e⟩, h⟩
    refine ⟨⟨ds, ?_⟩, h⟩
    simp only [List.getElem?_set_ne (Ne.symm q)]
    exact e
theorem slot_known {K : PySem.W.Frag} {G H : Hp} {s : DSt} {σ : L2.St} {i : Nat} {ds : List PyData} (S : SA K G s σ H) (h : s.d[i]? = some (.own ds)) :
    ∃ a xs, σ[i]? = some (some (.ref a)) ∧ H a = some (.lst xs) ∧ Stp G s σ H (upd G a (.lst xs)) { s with d := s.d.set i (.val (.list ds)) } σ H ∧ SA K (upd G a (.lst xs)) { s with d := s.d.set i (.val (.list ds)) } σ H ∧ Rp K (upd G a (.lst xs)) (.ref a) (.list ds) := by
  obtain ⟨a, xs, e, ha, hd⟩ := S.slot i _ h
  have e' : σ[i]? = some (some (.ref a)) := by
    cases z : σ[i]? with
    | none => rw [z] at e; cases e
    | some o => rw [z] at e; simp at e; rw [e]
  have hown : OwnAt s σ i a := ⟨⟨ds, h⟩, e'⟩
  have hg := S.ownG i a hown
  have il : i < s.d.length := (List.getElem?_eq_some_iff.mp h).1
  have ug : Ex G (upd G a (.lst xs)) := Ex.new hg
  have rp : Rp K (upd G a (.lst xs)) (.ref a) (.list ds) := .lst upd_same (dps_mono ug _ _ hd)
  refine ⟨a, xs, e', ha, ⟨ug, fun b u hb nb => ⟨hb, upd_ne fun z => nb (by subst z; exact .inl ⟨i, hown⟩)⟩, fun b z => ?_, fun b z => z, fun b z => z⟩, ⟨by simp [S.len], fun b u hb => ?_, fun j sl hj => ?_, fun j k b h1 h2 => ?_, fun j b z => ?_, ?_, fun j b z => ?_⟩, rp⟩
  · refine .inl ?_
    rcases z with ⟨j, z⟩ | z
    · exact .inl ⟨j, (own_set.mp z).2⟩
    · exact .inr z
  · by_cases q : b = a
    · subst q; rw [upd_same] at hb; rw [ha]; exact hb
    · rw [upd_ne q] at hb; exact S.gh b u hb
  · by_cases q : j = i
    · subst q
      simp only [List.getElem?_set_self il] at hj
      cases hj
      exact ⟨.ref a, by rw [e'] <;> rfl, rp⟩
    · simp only [List.getElem?_set_ne (Ne.symm q)] at hj
      have z := S.slot j sl hj
      cases sl with
      | no => trivial
      | val d => obtain ⟨v, e, hd⟩ := z; exact ⟨v, e, dp_mono ug _ _ hd⟩
      | raw v => exact z
      | ob o => obtain ⟨v, e, hd⟩ := z; exact ⟨v, e, ob_mono ug hd⟩
      | own es => obtain ⟨b, ys, e, hb, hh⟩ := z; exact ⟨b, ys, e, hb, dps_mono ug _ _ hh⟩
  · exact S.inj j k b (own_set.mp h1).2 (own_set.mp h2).2
  · obtain ⟨q, z⟩ := own_set.mp z
    rw [upd_ne fun e => q (by subst e; exact S.inj j i b z hown)]
    exact S.ownG j b z
  · exact pwok_to S.pw (fun a o h _ => h) (fun a φ h => h) fun b z => by rw [upd_ne fun q => S.pne i a hown (by subst q; exact z)]; exact G_pown S.pw z
  · exact S.pne j b (own_set.mp z).2
theorem esc_ok {K : PySem.W.Frag} {G0 H0 G H : Hp} {s0 s : DSt} {σ0 σ : L2.St} {v : V} {r r' : R} {s' : DSt} (S : SA K G s σ H) (st : Stp G0 s0 σ0 H0 G s σ H) (h : RRel K H0 G s σ H v r) (e : esc r s = some (r', s')) :
    ∃ G', Stp G0 s0 σ0 H0 G' s' σ H ∧ SA K G' s' σ H ∧ Ex G G' ∧ AR K G' v r' := by
  cases r with
  | val d => cases e; exact ⟨G, st, S, Ex.refl G, h⟩
  | raw u => cases e; exact ⟨G, st, S, Ex.refl G, h⟩
  | ob o => cases e; exact ⟨G, st, S, Ex.refl G, h⟩
  | new ds =>
    cases e
    obtain ⟨a, xs, rfl, ha, hd, hg, h0, hn⟩ := h
    obtain ⟨ug, S', rp⟩ := know S ha hd hg hn
    refine ⟨_, ⟨st.ex.trans ug, fun b u hb nb => ?_, st.own, st.dom, st.pw⟩, S', ug, rp⟩
    obtain ⟨h1, g1⟩ := st.keep b u hb nb
    exact ⟨h1, by rw [upd_ne fun z => by subst z; rw [h0] at hb; cases hb]; exact g1⟩
  | slot i =>
    simp only [esc] at e
    split at e
    · rename_i ds q
      cases e
      obtain ⟨a, xs, e1, ha, st', S', rp⟩ := slot_known S q
      have h' : σ[i]? = some (some v) := h
      rw [e1] at h'
      cases h'
      exact ⟨_, st.trans st', S', st'.ex, rp⟩
    · rename_i d q
      cases e
      have h' : σ[i]? = some (some v) := h
      obtain ⟨u, e1, hd⟩ := S.slot i _ q
      rw [h'] at e1
      cases e1
      exact ⟨G, st, S, Ex.refl G, hd⟩
    · cases e
def fEsc (r : R) : M R := fun s => match esc r s with
  | some (r', s') => .ok r' s'
  | none => .stuck
theorem ar_mono {K : PySem.W.Frag} {G G' : Hp} {v : V} {r : R} (e : Ex G G') (h : AR K G v r) : AR K G' v r := by
  cases r with
  | val d => exact dp_mono e _ _ h
  | raw u => exact h
  | ob o => exact ob_mono e h
  | new ds => exact h
  | slot i => exact h
end
end DL

/-! DL5: argument lists, displays, slices, statements -/
noncomputable section
namespace DL
open PySem L2 PyProof.Rows
open Evl (Ex)
section
variable {K : PySem.W.Frag} {cl : String → Addr} {W : WX} {G H : Hp} {s : DSt} {σ : L2.St}
def OutF {α : Type} (K : PySem.W.Frag) (cl : String → Addr) (W : WX) (G0 : Hp) (s0 : DSt) (σ0 : L2.St) (H0 : Hp) (σ : L2.St) (r : Res α) (k : α → Hp → DSt → Hp → Prop) : Prop := match r with
  | .ok a s' => ∀ G' H', Stp G0 s0 σ0 H0 G' s' σ H' → SA K G' s' σ H' → k a G' s' H'
  | .err x s' => ∀ cls d G' H', Stp G0 s0 σ0 H0 G' s' σ H' → SA K G' s' σ H' → XRel K cl x cls d G' → W cls d σ H'
  | .stuck => False
theorem out_esc {β : Type} {f : Res R} {g : R → M β} {k : β → Hp → DSt → Hp → Prop} (h : Out K cl W G s σ H (f.bind fun r => bnd (fEsc r) g) k) :
    Out K cl W G s σ H f fun r G1 s1 H1 => ∀ v, RRel K H G1 s1 σ H1 v r → ∃ G2 s2 r2, Stp G s σ H G2 s2 σ H1 ∧ SA K G2 s2 σ H1 ∧ AR K G2 v r2 ∧ Ex G1 G2 ∧
      Out K cl W G2 s2 σ H1 (g r2 s2) k := by
  cases f with
  | ok r s1 =>
    intro G1 H1 st S1 v rr
    have h : Out K cl W G s σ H ((fEsc r s1).bind g) k := h
    unfold fEsc at h
    cases e : esc r s1 with
    | none => rw [e] at h; exact h.elim
    | some p =>
      obtain ⟨r2, s2⟩ := p
      rw [e] at h
      obtain ⟨G2, st2, S2, ex, ar⟩ := esc_ok S1 st rr e
      refine ⟨G2, s2, r2, st2, S2, ar, ex, ?_⟩
      have h : Out K cl W G s σ H (g r2 s2) k := h
      cases q : g r2 s2 with
      | ok b s3 => rw [q] at h; exact fun G3 H3 st3 S3 => h G3 H3 (st2.trans st3) S3
      | err x s3 => rw [q] at h; exact fun c d G3 H3 st3 S3 xr => h c d G3 H3 (st2.trans st3) S3 xr
      | stuck => rw [q] at h; exact h
  | err x s1 => exact h
  | stuck => exact h
def tAe (K : PySem.W.Frag) (cl : String → Addr) (W : WX) (f : M (List R)) : TA := fun σ H Q => ∃ G s, SA K G s σ H ∧ Out K cl W G s σ H (f s) fun rs G' s' H' => ∀ vs, Paired (AR K G') vs rs → Q vs H'
end
section
variable {X : Cx} {cl : String → Addr} {W : WX} {e a b c : Expr} {es : List Expr} {f g : M R} {fs : M (List R)} {pos : Pos}
abbrev DAe (X : Cx) (cl : String → Addr) (W : WX) (es : List Expr) (f : M (List R)) : Prop := PA X es (tAe X.K cl W f)
def fNil : M (List R) := ret []
def fCons (f : M R) (fs : M (List R)) : M (List R) := bnd f fun r => bnd (fEsc r) fun r' => bnd fs fun rs => ret (r' :: rs)
def pCons (f : M R) (fs : M (List R)) : M (List R) := bnd f fun r => bnd fs fun rs => ret (r :: rs)
theorem ae_nil : DAe X cl W [] fNil := pa_imp pa_nil fun σ H Q ⟨G, s, S, q⟩ => q G H Stp.refl S [] .nil
theorem ae_cons (ha : DE X cl W e f) (hr : DAe X cl W es fs) (hs : starEach (e :: es) X.env = (false, eval e X.env) :: starEach es X.env := by rfl) : DAe X cl W (e :: es) (fCons f fs) := by
  refine pa_imp (pa_cons ha hr hs) fun σ H Q ⟨G, s, S, q⟩ => ?_
  refine ⟨G, s, S, out_mono (out_esc q) fun r G1 s1 H1 st S1 k v rr => ?_⟩
  obtain ⟨G2, s2, r2, st2, S2, ar, ex, k2⟩ := k v rr
  refine ⟨G2, s2, S2, out_mono (out_bind k2) fun rs G3 s3 H3 st3 S3 k3 vs hv => ?_⟩
  exact k3 G3 H3 Stp.refl S3 (v :: vs) (.cons (ar_mono st3.ex ar) hv)
theorem ap_nil : DA X cl W [] fNil := pa_imp pa_nil fun σ H Q ⟨G, s, S, q⟩ => q G H Stp.refl S [] .nil
theorem pair_less {K : PySem.W.Frag} {H0 H1 G H : Hp} {s : DSt} {σ : L2.St} (d : ∀ a, H0 a ≠ none → H1 a ≠ none) : ∀ {vs : List V} {rs : List R}, RRels K H1 G s σ H vs rs → RRels K H0 G s σ H vs rs
  | _, _, .nil => .nil
  | _, _, .cons h t => .cons (h.less d) (pair_less d t)
theorem ap_cons (ha : DE X cl W e f) (hr : DA X cl W es fs) (hs : starEach (e :: es) X.env = (false, eval e X.env) :: starEach es X.env := by rfl) : DA X cl W (e :: es) (pCons f fs) := by
  refine pa_imp (pa_cons ha hr hs) fun σ H Q ⟨G, s, S, q⟩ => ?_
  refine ⟨G, s, S, out_mono (out_bind q) fun r G1 s1 H1 st S1 k v rr => ?_⟩
  refine ⟨G1, s1, S1, out_mono (out_bind k) fun rs G3 s3 H3 st3 S3 k3 vs hv => ?_⟩
  exact k3 G3 H3 Stp.refl S3 (v :: vs) (.cons (rr.mono st3) (pair_less st.dom hv))
def datas : List R → Option (List PyData)
  | [] => some []
  | .val d :: r => (datas r).map (d :: ·)
  | _ :: _ => none
theorem datas_rp {K : PySem.W.Frag} {G : Hp} : ∀ {rs : List R} {vs : List V} {ds : List PyData}, Paired (AR K G) vs rs → datas rs = some ds → RpAll K G vs ds
  | [], _, ds, .nil, e => by cases e; exact .nil
  | .val d :: r, _, ds, .cons h t, e => by
    simp only [datas] at e
    cases q : datas r with
    | none => rw [q] at e; cases e
    | some es => rw [q] at e; cases e; exact .cons h (datas_rp t q)
  | .raw _ :: _, _, _, _, e | .ob _ :: _, _, _, _, e | .new _ :: _, _, _, _, e | .slot _ :: _, _, _, _, e => by cases e
def fLst (fs : M (List R)) : M R := bnd fs fun rs s => match datas rs with
  | some ds => if leS (ds.length) then .ok (.new ds) s else .stuck
  | none => .stuck
def fTup (fs : M (List R)) : M R := bnd fs fun rs s => match datas rs with
  | some ds => if leS (ds.length) then .ok (.val (.tuple ds)) s else .stuck
  | none => .stuck
theorem d_lst (h : DAe X cl W es fs) : DE X cl W (.List es pos) (fLst fs) := by
  refine pe_imp (pe_lst h) fun σ H Q ⟨G, s, S, q⟩ => ?_
  refine ⟨G, s, S, out_mono (out_bind q) fun rs G1 s1 H1 st S1 k vs hv => ?_⟩
  split at k
  · rename_i ds e
    split at k
    · rename_i hl
      have hd := datas_rp hv e
      refine ⟨by rw [dps_len hd]; exact hl, fun p hp => ?_⟩
      obtain ⟨st2, S2, rr⟩ := new_list S1 hp hd st.dom
      exact k _ _ st2 S2 _ rr
    · exact k.elim
  · exact k.elim
theorem d_tup {x1} (h : DAe X cl W es fs) : DE X cl W (.Tuple es x1 pos) (fTup fs) := by
  refine pe_imp (pe_tup h) fun σ H Q ⟨G, s, S, q⟩ => ?_
  refine ⟨G, s, S, out_mono (out_bind q) fun rs G1 s1 H1 st S1 k vs hv => ?_⟩
  split at k
  · rename_i ds e
    split at k
    · rename_i hl
      have hd := datas_rp hv e
      refine ⟨by rw [dps_len hd]; exact hl, fun p hp => ?_⟩
      obtain ⟨st2, S2⟩ := new_known (.tup vs) S1 hp
      exact k _ _ st2 S2 _ (.tup upd_same (dps_mono st2.ex _ _ hd))
    · exact k.elim
  · exact k.elim

/-! ### slices -/
def fPart (f : M R) : M (Option Int) := bnd f fun r s => match look r s with
  | some (.int i) => .ok (some i) s
  | _ => .stuck
def fNoPart : M (Option Int) := ret none
def tP (K : PySem.W.Frag) (cl : String → Addr) (W : WX) (f : M (Option Int)) : TO := fun σ H Q => ∃ G s, SA K G s σ H ∧ Out K cl W G s σ H (f s) fun o _ _ H' => Q o H'
theorem po_imp {o : Option Expr} {t t' : TO} (h : PO X o t) (i : ∀ σ H Q, t' σ H Q → t σ H Q) : PO X o t' := ⟨fun pins s σ H Q I q => h.run pins s σ H Q I (i σ H Q q)⟩
abbrev DP (X : Cx) (cl : String → Addr) (W : WX) (o : Option Expr) (f : M (Option Int)) : Prop := PO X o (tP X.K cl W f)
theorem dp_none : DP X cl W none fNoPart := po_imp po_none fun σ H Q ⟨G, s, S, q⟩ => q G H Stp.refl S
theorem dp_some (h : DE X cl W e f) : DP X cl W (some e) (fPart f) := po_imp (po_some h) fun σ H Q ⟨G, s, S, q⟩ => by
  refine ⟨G, s, S, out_mono (out_bind q) fun r G1 s1 H1 st S1 k v rr => ?_⟩
  split at k
  · rename_i i e
    obtain rfl := dq_int (look_q S1 rr e)
    exact ⟨i, rfl, k G1 H1 Stp.refl S1⟩
  · exact k.elim
def cutD (xs : List PyData) (lo hi : Option Int) : List PyData := (xs.drop (HT.sIx xs.length 0 lo)).take (HT.sIx xs.length xs.length hi - HT.sIx xs.length 0 lo)
def sliceO (d : PyData) (lo hi : Option Int) : Option R := match d with
  | .list xs => some (.new (cutD xs lo hi))
  | .tuple xs => some (.val (.tuple (cutD xs lo hi)))
  | _ => none
def fSlice (f : M R) (l h : M (Option Int)) : M R := bnd f fun x => bnd l fun lo => bnd h fun hi s => match look x s with
  | some d => match sliceO d lo hi with
    | some (.slot _) => .stuck
    | some r => .ok r s
    | none => .stuck
  | none => .stuck
theorem cut_rp {K : PySem.W.Frag} {G : Hp} {xs : List V} {ds : List PyData} {lo hi : Option Int} (h : RpAll K G xs ds) : RpAll K G (cutV xs lo hi) (cutD ds lo hi) := by
  unfold cutV cutD
  rw [dps_len h]
  exact dps_take _ (dps_drop _ h)
theorem d_slice {lo hi : Option Expr} {l h : M (Option Int)} {p2 : Pos} (ha : DE X cl W e f) (hl : DP X cl W lo l) (hh : DP X cl W hi h) : DE X cl W (.Subscript e (.Slice lo hi none p2) pos) (fSlice f l h) := by
  refine pe_imp (pe_slice (sl_list.or sl_tupA) ha hl hh) fun σ H Q ⟨G, s, S, q⟩ => ?_
  refine ⟨G, s, S, out_mono (out_bind q) fun x G1 s1 H1 st1 S1 q1 v1 r1 => ⟨G1, s1, S1, ?_⟩⟩
  refine out_mono (out_bind q1) fun lo G2 s2 H2 st2 S2 q2 => ⟨G2, s2, S2, ?_⟩
  refine out_mono (out_bind q2) fun hi G3 s3 H3 st3 S3 q3 => ?_
  have r3 := (r1.mono st2).mono st3
  split at q3
  · rename_i d e
    have hd := look_q S3 r3 e
    split at q3
    · exact q3.elim
    · rename_i r ns ho
      have an := ans_of S3 ((st1.trans st2).trans st3).dom (fun i z => ns i z) q3
      unfold sliceO at ho
      split at ho
      · cases ho
        obtain ⟨p, xs, rfl, hp, hpx⟩ := dq_lst hd
        exact .inl ⟨p, xs, rfl, .of hp, fun l hl => an l _ hl (cut_rp hpx)⟩
      · rename_i ds
        cases ho
        obtain ⟨p, xs, rfl, hp, hpx, h1⟩ := dq_tup S3.gh hd
        refine .inr ⟨p, xs, rfl, hp, fun ⟨z1, z2⟩ => ?_, fun _ l hl => an.2 _ l _ rfl hl (cut_rp hpx)⟩
        refine an.1 _ ?_
        have e1 : cutD ds lo hi = ds := by
          unfold cutD
          rw [← dps_len hpx, z1, z2, dps_len hpx]
          simp
        rw [e1]
        exact h1
      · cases ho
    · exact q3.elim
  · exact q3.elim
def revO : PyData → Option R
  | .list xs => some (.new xs.reverse)
  | _ => none
def fUn (o : R → M R) (f : M R) : M R := bnd f o
def negO : PyData → Option R
  | .int i => some (.val (.int (-i)))
  | _ => none
theorem d_neg (ha : DE X cl W e f) : DE X cl W (.UnaryOp .USub e pos) (fUn (lift1 negO) f) := by
  refine pe_imp (pe_un un_neg ha) fun σ H Q ⟨G, s, S, q⟩ => ?_
  refine ⟨G, s, S, out_mono (out_bind q) fun x G1 s1 H1 st1 S1 q1 v1 r1 => ?_⟩
  unfold lift1 at q1
  split at q1
  · rename_i d e
    have hd := look_q S1 r1 e
    split at q1
    · exact q1.elim
    · rename_i r ns ho
      have an := ans_of S1 st1.dom (fun i z => ns i z) q1
      unfold negO at ho
      split at ho
      · cases ho
        obtain rfl := dq_int hd
        exact ⟨_, rfl, an.1 _ (.int _)⟩
      · cases ho
    · exact q1.elim
  · exact q1.elim
def isNR (r : R) (s : DSt) : Option Bool := match r with
  | .raw v => some (decide (v = .non))
  | .ob _ => some false
  | r => match look r s with
    | some .none => some true
    | some _ => some false
    | none => none
def fIsN (neg : Bool) (f : M R) : M R := bnd f fun r s => match isNR r s with
  | some b => .ok (.val (.bool (if neg then !b else b))) s
  | none => .stuck
theorem isNR_ok {K : PySem.W.Frag} {H0 G H : Hp} {s : DSt} {σ : L2.St} {v : V} {r : R} {b : Bool} (S : SA K G s σ H) (h : RRel K H0 G s σ H v r) (e : isNR r s = some b) : decide (v = .non) = b := by
  have go : ∀ d, Dq K G H v d → (match some d with | some PyData.none => some true | some _ => some false | none => none) = some b → decide (v = .non) = b := by
    intro d hd e
    cases d with
    | none => cases e; cases (show Rp K G v .none from hd); rfl
    | bool x => cases e; cases (show Rp K G v (.bool x) from hd); rfl
    | int x => cases e; cases (show Rp K G v (.int x) from hd); rfl
    | str x => cases e; cases (show Rp K G v (.str x) from hd); rfl
    | list x => cases e; obtain ⟨a, xs, rfl, _⟩ := dq_lst hd; rfl
    | tuple x => cases e; cases (show Rp K G v (.tuple x) from hd); rfl
    | dict x => cases (show Rp K G v (.dict x) from hd)
  unfold isNR at e
  split at e
  · cases e
    have h : v = _ := h
    rw [h]
  · cases e
    rename_i o
    cases o with
    | dict kvs => obtain ⟨a, vs, rfl, _⟩ := h; rfl
    | dictT kvs => obtain ⟨a, vs, rfl, _⟩ := h; rfl
    | exc x => obtain ⟨a, d, rfl, _⟩ := h; rfl
    | set S n => obtain ⟨a, rfl, _⟩ := h; rfl
    | scr ns => obtain ⟨a, rfl, _⟩ := h; rfl
    | excs n is => obtain ⟨a, vs, rfl, _⟩ := h; rfl
  · split at e
    · rename_i q; exact go _ (look_q S h q) e
    · rename_i d _ q
      refine go d (look_q S h q) ?_
      rw [← e]
      split
      · rename_i z _ w; exact absurd (Option.some.inj w) (by assumption)
      · rfl
      · rename_i w; cases w
    · cases e
theorem is_reads {rl : TE → TE} (neg : Bool) (hf : ∀ te σ H Q, te σ H (fun x H1 => Q (.bl (if neg then !decide (x = V.non) else decide (x = V.non))) H1) → rl te σ H Q) {K : PySem.W.Frag} {σ : L2.St} {H : Hp} {Q : VK} (q : tD K cl W (fIsN neg f) σ H Q) : rl (tD K cl W f) σ H Q := by
  obtain ⟨G, s, S, q⟩ := q
  refine hf _ _ _ _ ⟨G, s, S, out_mono (out_bind q) fun x G1 s1 H1 st1 S1 q1 v1 r1 => ?_⟩
  split at q1
  · rename_i b e
    have z := isNR_ok S1 r1 e
    have an := q1 G1 H1 Stp.refl S1 (.bl (if neg then !b else b)) (.bl _)
    rw [← z] at an
    exact an
  · exact q1.elim
theorem t_isN {j pos'} (ha : DE X cl W a f) : DT X cl W (.Compare a [.Is] [.Constant .none j pos'] pos) (fB (fIsN false f)) := pt_imp (pt_cmp (pc_isN ha) rfl) fun σ H Q q => is_reads (rl := tIsN) false (fun _ _ _ _ h => h) (test_of q)
theorem t_notN {j pos'} (ha : DE X cl W a f) : DT X cl W (.Compare a [.IsNot] [.Constant .none j pos'] pos) (fB (fIsN true f)) := pt_imp (pt_cmp (pc_notN ha) rfl) fun σ H Q q => is_reads (rl := tNotN) true (fun _ _ _ _ h => h) (test_of q)
theorem t_lt (ha : DE X cl W a f) (hb : DE X cl W b g) : DT X cl W (.Compare a [.Lt] [b] pos) (fB (fOp (lift2 ltO) f g)) := d_opT (fun h1 h2 => pt_cmpR op_lt h1 h2 (nomark _)) (ops_lift opd_lt) ha hb
theorem t_gt (ha : DE X cl W a f) (hb : DE X cl W b g) : DT X cl W (.Compare a [.Gt] [b] pos) (fB (fOp (lift2 gtO) f g)) := d_opT (fun h1 h2 => pt_cmpR op_gt h1 h2 (nomark _)) (ops_lift opd_gt) ha hb
theorem t_ge (ha : DE X cl W a f) (hb : DE X cl W b g) : DT X cl W (.Compare a [.GtE] [b] pos) (fB (fOp (lift2 geO) f g)) := d_opT (fun h1 h2 => pt_cmpR op_ge h1 h2 (nomark _)) (ops_lift opd_ge) ha hb
theorem t_eq (hu : X.A.units + 64 < cLine) (ha : DE X cl W a f) (hb : DE X cl W b g) : DT X cl W (.Compare a [.Eq] [b] pos) (fB (fOp (lift2 eqO) f g)) := d_opT (fun h1 h2 => pt_cmpR (op_eqP hu) h1 h2 (nomark _)) (ops_lift opd_eq) ha hb
theorem t_ne (hu : X.A.units + 64 < cLine) (ha : DE X cl W a f) (hb : DE X cl W b g) : DT X cl W (.Compare a [.NotEq] [b] pos) (fB (fOp (lift2 neO) f g)) := d_opT (fun h1 h2 => pt_cmpR (op_neP hu) h1 h2 (nomark _)) (ops_lift opd_ne) ha hb
theorem t_in (hu : X.A.units + 64 < cLine) (hm : behindInMarks .In b = false) (ha : DE X cl W a f) (hb : DE X cl W b g) : DT X cl W (.Compare a [.In] [b] pos) (fB (fOp (lift2 inO) f g)) := d_opT (fun h1 h2 => pt_cmpR (op_inP hu) h1 h2 hm) (ops_lift opd_in) ha hb
end
end DL

/-! DL6: statements, loops -/
noncomputable section
namespace DL
open PySem L2 PyProof.Rows
open Evl (Ex)
/-! ### a slot is set -/
def putS (i : Nat) (x : Sl) (s : DSt) : DSt := { s with d := s.d.set i x }
def store (i : Nat) (r : R) (s : DSt) : Option DSt := match r with
  | .val d => some (putS i (.val d) s)
  | .raw v => some (putS i (.raw v) s)
  | .ob o => some (putS i (.ob o) s)
  | .new ds => some (putS i (.own ds) s)
  | .slot j => match s.d[j]? with
    | some (.own ds) => some (putS i (.val (.list ds)) (putS j (.val (.list ds)) s))
    | some (.val d) => some (putS i (.val d) s)
    | _ => none
section
variable {K : PySem.W.Frag} {G H G0 H0 : Hp} {s s0 : DSt} {σ σ0 : L2.St}
theorem own_put {i j : Nat} {x : Sl} {v : V} {a : Addr} (hi : i < s.d.length) (hl : s.d.length = σ.length) : OwnAt (putS i x s) (σ.set i (some v)) j a → (j = i ∧ (∃ ds, x = .own ds) ∧ v = .ref a) ∨ (j ≠ i ∧ OwnAt s σ j a) := by
  rintro ⟨⟨ds, e⟩, h⟩
  by_cases q : j = i
  · subst q
    unfold putS at e
    simp only [List.getElem?_set_self hi] at e
    rw [List.getElem?_set_self (by omega)] at h
    cases e
    cases h
    exact .inl ⟨rfl, ⟨ds, rfl⟩, rfl⟩
  · unfold putS at e
    simp only [List.getElem?_set_ne (Ne.symm q)] at e
    rw [List.getElem?_set_ne (Ne.symm q)] at h
    exact .inr ⟨q, ⟨ds, e⟩, h⟩
theorem put_ok {i : Nat} {x : Sl} {v : V} (S : SA K G s σ H) (hi : i < s.d.length) (hx : SlOk K G H (some v) x) (ho : ∀ ds a, x = .own ds → v = .ref a → G a = none ∧ ¬ POwn s.w a ∧ ∀ j, j ≠ i → ¬ OwnAt s σ j a) : SA K G (putS i x s) (σ.set i (some v)) H := by
  refine ⟨by simp [putS, S.len], S.gh, fun j sl h => ?_, fun j k a h1 h2 => ?_, fun j a h => ?_, S.pw, fun j a h => ?_⟩
  · by_cases q : j = i
    · subst q
      simp only [putS, List.getElem?_set_self hi] at h
      cases h
      rw [List.getElem?_set_self (by rw [← S.len]; exact hi)]
      exact hx
    · simp only [putS, List.getElem?_set_ne (Ne.symm q)] at h
      rw [List.getElem?_set_ne (Ne.symm q)]
      exact S.slot j sl h
  · rcases own_put hi S.len h1 with ⟨e1, ⟨ds, e2⟩, e3⟩ | ⟨e1, h1⟩ <;> rcases own_put hi S.len h2 with ⟨f1, ⟨es, f2⟩, f3⟩ | ⟨f1, h2⟩
    · rw [e1, f1]
    · exact absurd h2 ((ho ds a e2 e3).2.2 k f1)
    · exact absurd h1 ((ho es a f2 f3).2.2 j e1)
    · exact S.inj j k a h1 h2
  · rcases own_put hi S.len h with ⟨e1, ⟨ds, e2⟩, e3⟩ | ⟨e1, h1⟩
    · exact (ho ds a e2 e3).1
    · exact S.ownG j a h1
  · rcases own_put hi S.len h with ⟨e1, ⟨ds, e2⟩, e3⟩ | ⟨e1, h1⟩
    · exact (ho ds a e2 e3).2.1
    · exact S.pne j a h1
theorem put_stp {i : Nat} {x : Sl} {v : V} (S : SA K G s σ H) (st : Stp G0 s0 σ0 H0 G s σ H) (hi : i < s.d.length) (ho : ∀ ds a, x = .own ds → v = .ref a → H0 a = none ∨ Own s σ a) : Stp G0 s0 σ0 H0 G (putS i x s) (σ.set i (some v)) H := by
  refine ⟨st.ex, st.keep, fun a z => ?_, st.dom, st.pw⟩
  rcases z with ⟨j, z⟩ | z
  · rcases own_put hi S.len z with ⟨e1, ⟨ds, e2⟩, e3⟩ | ⟨e1, h1⟩
    · rcases ho ds a e2 e3 with q | q
      · exact .inr q
      · exact st.own a q
    · exact st.own a (.inl ⟨j, h1⟩)
  · exact st.own a (.inr z)
theorem store_good {i : Nat} {r : R} {v : V} {s' : DSt} (S : SA K G s σ H) (st : Stp G0 s0 σ0 H0 G s σ H) (h : RRel K H0 G s σ H v r) (hi : i < s.d.length) (e : store i r s = some s') :
    ∃ G', Stp G0 s0 σ0 H0 G' s' (σ.set i (some v)) H ∧ SA K G' s' (σ.set i (some v)) H ∧ Ex G G' := by
  cases r with
  | val d => cases e; exact ⟨G, put_stp S st hi (by intro _ _ z; cases z), put_ok S hi ⟨v, rfl, h⟩ (by intro _ _ z; cases z), Ex.refl G⟩
  | ob o => cases e; exact ⟨G, put_stp S st hi (by intro _ _ z; cases z), put_ok S hi ⟨v, rfl, h⟩ (by intro _ _ z; cases z), Ex.refl G⟩
  | raw u =>
    cases e
    have h : v = u := h
    subst h
    exact ⟨G, put_stp S st hi (by intro _ _ z; cases z), put_ok S hi rfl (by intro _ _ z; cases z), Ex.refl G⟩
  | new ds =>
    cases e
    obtain ⟨a, xs, rfl, ha, hd, hg, h0, hn⟩ := h
    refine ⟨G, put_stp S st hi (fun es b z1 z2 => ?_), put_ok S hi ⟨a, xs, rfl, ha, hd⟩ (fun es b z1 z2 => ?_), Ex.refl G⟩
    · cases z2; exact .inl h0
    · cases z2; exact ⟨hg, fun z => hn (.inr z), fun j _ z => hn (.inl ⟨j, z⟩)⟩
  | slot j =>
    simp only [store] at e
    split at e
    · rename_i ds q
      cases e
      obtain ⟨a, xs, e1, ha, st', S', rp⟩ := slot_known S q
      have h' : σ[j]? = some (some v) := h
      rw [e1] at h'
      cases h'
      have hi' : i < ({ s with d := s.d.set j (.val (.list ds)) } : DSt).d.length := by simpa using hi
      exact ⟨_, put_stp S' (st.trans st') hi' (by intro _ _ z; cases z), put_ok S' hi' ⟨_, rfl, rp⟩ (by intro _ _ z; cases z), st'.ex⟩
    · rename_i d q
      cases e
      have h' : σ[j]? = some (some v) := h
      obtain ⟨u, e1, hd⟩ := S.slot j _ q
      rw [h'] at e1
      cases e1
      exact ⟨G, put_stp S st hi (by intro _ _ z; cases z), put_ok S hi ⟨v, rfl, hd⟩ (by intro _ _ z; cases z), Ex.refl G⟩
    · cases e
end
/-! ### flows -/
def fseq (f g : DSt → Flow) : DSt → Flow := fun s => match f s with
  | .next s' => g s'
  | x => x
def fnext : DSt → Flow := fun s => .next s
section
variable {K : PySem.W.Frag} {cl : String → Addr} {W : WX} {G H G' H' : Hp} {s s' : DSt} {σ σ' : L2.St}
theorem fout_shift {fl : Flow} {D : Ends} (st : Stp G s σ H G' s' σ' H') (h : FOut K cl W G s σ H fl D) : FOut K cl W G' s' σ' H' fl D := by
  cases fl with
  | next s2 => exact fun G2 σ2 H2 st2 S2 => h G2 σ2 H2 (st.trans st2) S2
  | brk s2 => exact fun G2 σ2 H2 st2 S2 => h G2 σ2 H2 (st.trans st2) S2
  | cnt s2 => exact fun G2 σ2 H2 st2 S2 => h G2 σ2 H2 (st.trans st2) S2
  | ret r s2 => exact fun v G2 σ2 H2 st2 S2 rr => h v G2 σ2 H2 (st.trans st2) S2 (rr.less st.dom)
  | err x s2 => exact fun c d G2 σ2 H2 st2 S2 xr => h c d G2 σ2 H2 (st.trans st2) S2 xr
  | stuck => exact h
def onRes {α : Type} (r : Res α) (g : α → DSt → Flow) : Flow := match r with
  | .ok a s => g a s
  | .err x s => .err x s
  | .stuck => .stuck
theorem fout_res {α : Type} {r : Res α} {g : α → DSt → Flow} {D : Ends} (h : FOut K cl W G s σ H (onRes r g) D) : Out K cl W G s σ H r fun a G1 s1 H1 => FOut K cl W G s σ H (g a s1) D := by
  cases r with
  | ok a s1 => exact fun G1 H1 st S1 => h
  | err x s1 => exact fun c d G1 H1 st S1 xr => h c d G1 σ H1 st S1 xr
  | stuck => exact h
end
section
variable {X : Cx} {cl : String → Addr} {W : WX} {e a b c : Expr} {es : List Expr} {f g : M R} {fs : M (List R)} {pos : Pos} {st : Stmt} {rest : List Stmt} {p q : DSt → Flow}
theorem ss_nil : DSs X cl W [] fnext := pss_imp pss_nil fun D σ H ⟨G, s, S, h⟩ => h G σ H Stp.refl S
theorem ss_cons (h1 : DS X cl W st p) (h2 : DSs X cl W rest q) : DSs X cl W (st :: rest) (fseq p q) := by
  refine pss_imp (pss_cons h1 h2) fun D σ H ⟨G, s, S, h⟩ => ⟨G, s, S, ?_⟩
  unfold fseq at h
  cases z : p s with
  | next s' =>
    rw [z] at h
    exact fun G1 σ1 H1 st1 S1 => ⟨G1, s', S1, fout_shift st1 h⟩
  | brk s' => rw [z] at h; exact h
  | cnt s' => rw [z] at h; exact h
  | ret r s' => rw [z] at h; exact h
  | err x s' => rw [z] at h; exact h
  | stuck => rw [z] at h; exact h
theorem ss_one (h1 : DS X cl W st p) : DSs X cl W [st] p := pss_one h1
def fbrk : DSt → Flow := fun s => .brk s
def fcnt : DSt → Flow := fun s => .cnt s
def fnever : DSt → Flow := fun _ => .stuck
def fDrop (f : M R) : DSt → Flow := fun s => onRes (f s) fun _ s' => .next s'
theorem s_expr (h : DE X cl W e f) (hs : swapsWith e none pos.line X.env = pure false := by rfl) : DS X cl W (.Expr e pos) (fDrop f) := by
  refine ps_imp (ps_expr h hs) fun D σ H ⟨G, s, S, h⟩ => ⟨G, s, S, out_mono (fout_res h) fun r G1 s1 H1 st1 S1 k v rr => ?_⟩
  exact k G1 σ H1 st1 S1
def fRet (f : M R) : DSt → Flow := fun s => onRes (f s) fun r s' => .ret r s'
theorem s_ret (h : DE X cl W e f) : DS X cl W (.Return (some e) pos) (fRet f) := by
  refine ps_imp (ps_ret h) fun D σ H ⟨G, s, S, h⟩ => ⟨G, s, S, out_mono (fout_res h) fun r G1 s1 H1 st1 S1 k v rr => ?_⟩
  exact k v G1 σ H1 st1 S1 rr
def fRetN : DSt → Flow := fun s => .ret (.val .none) s
def fIfS (c : M Bool) (p q : DSt → Flow) : DSt → Flow := fun s => onRes (c s) fun b s' => if b then p s' else q s'
theorem s_if {c : Expr} {t : M Bool} {as bs : List Stmt} (hc : DT X cl W c t) (ha : DSs X cl W as p) (hb : DSs X cl W bs q) : DS X cl W (.If c as bs pos) (fIfS t p q) := by
  refine ps_imp (ps_if hc ha hb) fun D σ H ⟨G, s, S, h⟩ => ⟨G, s, S, out_mono (fout_res h) fun b G1 s1 H1 st1 S1 k => ?_⟩
  cases b with
  | true => exact ⟨G1, s1, S1, fout_shift st1 k⟩
  | false => exact ⟨G1, s1, S1, fout_shift st1 k⟩
def fSet (i : Nat) (f : M R) : DSt → Flow := fun s => onRes (f s) fun r s' => if i < s'.d.length then match store i r s' with
  | some s2 => .next s2
  | none => .stuck
  else .stuck
theorem set_reads {i : Nat} {D : Ends} {σ : L2.St} {H : Hp} {K : PySem.W.Frag} (q : tS K cl W (fSet i f) D σ H) : tAsg (tD K cl W f) (gName i) D σ H := by
  obtain ⟨G, s, S, h⟩ := q
  refine ⟨G, s, S, out_mono (fout_res h) fun r G1 s1 H1 st1 S1 k v rr => ?_⟩
  split at k
  · rename_i hi
    split at k
    · rename_i s2 e
      obtain ⟨G2, st2, S2, _⟩ := store_good S1 st1 rr hi e
      exact k G2 _ H1 st2 S2
    · exact k.elim
  · exact k.elim
theorem s_set {i : Nat} {x : Str} {pos' : Pos} (hN : X.N.Nodup) (hi : X.N[i]? = some x) (hx : Loc X.env.scope x) (he : DE X cl W e f) (hs : swapsWith e (some (.Name x pos')) pos.line X.env = pure false := by rfl) (hf : X.fn x = true ∨ X.env.scope.names.lookup x = some .local := by first | exact .inl rfl | exact .inr rfl | assumption) :
    DS X cl W (.Assign [.Name x pos'] e pos) (fSet i f) := ps_imp (ps_set hN hi hx he hs hf) fun D σ H q => set_reads q
end
end DL

/-! DL7: targets, what is walked, loops, comprehensions -/
noncomputable section
namespace DL
open PySem L2 PyProof.Rows
open Evl (Ex)
/-! ### targets -/
abbrev Bd := PyData → DSt → Option DSt
def GOk (K : PySem.W.Frag) (g : TG) (b : Bd) (js : List Nat) : Prop := ∀ (x : V) (d : PyData) (G : Hp) (s : DSt) (σ : L2.St) (H : Hp) (s' : DSt) (Q : L2.St → Hp → Prop), SA K G s σ H → Rp K G x d → b d s = some s' →
  (∀ σ', σ'.length = σ.length → (∀ i, i ∉ js → σ'[i]? = σ[i]?) → (∀ i : Nat, i ∉ js → s'.d[i]? = s.d[i]?) → s'.w = s.w → Stp G s σ H G s' σ' H → SA K G s' σ' H → Q σ' H) → g x σ H Q
def bName (i : Nat) : Bd := fun d s => if i < s.d.length then some (putS i (.val d) s) else none
theorem g_name {K : PySem.W.Frag} (i : Nat) : GOk K (gName i) (bName i) [i] := by
  intro x d G s σ H s' Q S rp e k
  unfold bName at e
  split at e
  · rename_i hi
    cases e
    refine k _ (by simp) (fun j hj => ?_) (fun j hj => ?_) rfl (put_stp S Stp.refl hi (by intro _ _ z; cases z)) (put_ok S hi ⟨x, rfl, rp⟩ (by intro _ _ z; cases z))
    · rw [List.getElem?_set_ne (fun z => hj (by simp [z]))]
    · simp only [putS]
      rw [List.getElem?_set_ne (fun z => hj (by simp [z]))]
  · cases e
abbrev Bds := List PyData → DSt → Option DSt
def GsOk (K : PySem.W.Frag) (g : TGs) (b : Bds) (js : List Nat) : Prop := ∀ (xs : List V) (ds : List PyData) (G : Hp) (s : DSt) (σ : L2.St) (H : Hp) (s' : DSt) (Q : L2.St → Hp → Prop), SA K G s σ H → RpAll K G xs ds → b ds s = some s' →
  (∀ σ', σ'.length = σ.length → (∀ i, i ∉ js → σ'[i]? = σ[i]?) → (∀ i : Nat, i ∉ js → s'.d[i]? = s.d[i]?) → s'.w = s.w → Stp G s σ H G s' σ' H → SA K G s' σ' H → Q σ' H) → g xs σ H Q
def bNil : Bds := fun ds s => match ds with
  | [] => some s
  | _ => none
def bCons (b : Bd) (bs : Bds) : Bds := fun ds s => match ds with
  | d :: r => match b d s with
    | some s' => bs r s'
    | none => none
  | [] => none
theorem g_nil {K : PySem.W.Frag} : GsOk K gNil bNil [] := by
  intro xs ds G s σ H s' Q S rp e k
  unfold bNil at e
  split at e
  · cases e
    cases rp
    exact ⟨rfl, k σ rfl (fun _ _ => rfl) (fun _ _ => rfl) rfl Stp.refl S⟩
  · cases e
theorem g_cons {K : PySem.W.Frag} {g : TG} {gs : TGs} {b : Bd} {bs : Bds} {js ks : List Nat} (h1 : GOk K g b js) (h2 : GsOk K gs bs ks) : GsOk K (gCons g gs) (bCons b bs) (js ++ ks) := by
  intro xs ds G s σ H s' Q S rp e k
  unfold bCons at e
  split at e
  · rename_i d r
    split at e
    · rename_i s1 e1
      cases rp with
      | cons rp1 rp2 =>
        refine ⟨_, _, rfl, h1 _ d G s σ H s1 _ S rp1 e1 fun σ1 l1 n1 m1 w1 st1 S1 => ?_⟩
        refine h2 _ r G s1 σ1 H s' _ S1 rp2 e fun σ2 l2 n2 m2 w2 st2 S2 => ?_
        exact k σ2 (l2.trans l1) (fun i hi => (n2 i fun z => hi (List.mem_append_right _ z)).trans (n1 i fun z => hi (List.mem_append_left _ z))) (fun i hi => (m2 i fun z => hi (List.mem_append_right _ z)).trans (m1 i fun z => hi (List.mem_append_left _ z))) (w2.trans w1) (st1.trans st2) S2
    · cases e
  · cases e
def bTup (n : Nat) (bs : Bds) : Bd := fun d s => match d with
  | .tuple ds => if ds.length = n then bs ds s else none
  | _ => none
theorem g_tup {K : PySem.W.Frag} {n : Nat} {gs : TGs} {bs : Bds} {js : List Nat} (h : GsOk K gs bs js) : GOk K (gTup K n gs) (bTup n bs) js := by
  intro x d G s σ H s' Q S rp e k
  unfold bTup at e
  split at e
  · split at e
    · rename_i ds hl
      cases rp with
      | tup hs ha => exact ⟨_, _, rfl, .of (S.gh _ _ hs), by rw [dps_len ha]; exact hl, h _ ds G s σ H s' Q S ha e k⟩
    · cases e
  · cases e
def bUnl (n : Nat) (bs : Bds) : Bd := fun d s => match d with
  | .list ds => if ds.length = n then bs ds s else none
  | _ => none
/-! ### what is walked -/
def ItOk (K : PySem.W.Frag) (J : It) (ds : List PyData) (G : Hp) : Prop := ∀ (G' : Hp) (s' : DSt) (σ' : L2.St) (H' : Hp), Ex G G' → SA K G' s' σ' H' → ∀ i,
  (∀ d, ds[i]? = some d → J.go i H' ∧ ∀ x H2, J.yld i H' x H2 → ∃ G2, Stp G' s' σ' H' G2 s' σ' H2 ∧ SA K G2 s' σ' H2 ∧ Rp K G2 x d) ∧ (ds.length ≤ i → J.stop i H')
def tI (K : PySem.W.Frag) (cl : String → Addr) (W : WX) (f : M (List PyData)) : TI := fun σ H R => ∃ G s, SA K G s σ H ∧ Out K cl W G s σ H (f s) fun ds G' s' H' => ∀ J, ItOk K J ds G' → R J H'
section
variable {X : Cx} {cl : String → Addr} {W : WX} {e a b c tg iter : Expr} {es : List Expr} {f g : M R} {fs : M (List R)} {fi : M (List PyData)} {pos : Pos}
abbrev DI (X : Cx) (cl : String → Addr) (W : WX) (tg e : Expr) (f : M (List PyData)) : Prop := PI X tg e (tI X.K cl W f)
theorem pi_imp {t t' : TI} (h : PI X tg e t) (i : ∀ σ H R, t' σ H R → t σ H R) : PI X tg e t' := ⟨fun pins s σ H R I q => h.run pins s σ H R I (i σ H R q)⟩
theorem it_list {K : PySem.W.Frag} {G : Hp} {a : Addr} {xs : List V} {ds : List PyData} (h : G a = some (.lst xs)) (hd : RpAll K G xs ds) (uq : ∀ (G' : Hp) (s' : DSt) (σ' : L2.St) (H' : Hp), Ex G G' → SA K G' s' σ' H' → H' a = some (.lst xs)) : ItOk K (Itl K a) ds G := by
  intro G' s' σ' H' ex S i
  have hH := uq G' s' σ' H' ex S
  refine ⟨fun d e => ?_, fun hl => ⟨xs, .of hH, by rw [dps_len hd]; exact hl⟩⟩
  have hi : i < xs.length := by rw [dps_len hd]; exact (List.getElem?_eq_some_iff.mp e).1
  refine ⟨⟨xs, xs[i], .of hH, by simp [hi]⟩, fun x H2 ⟨e2, y⟩ => ?_⟩
  subst e2
  obtain ⟨d', e', r⟩ := dps_get hd (y xs (.of hH))
  rw [e] at e'
  cases e'
  exact ⟨G', Stp.refl, S, dp_mono ex _ _ r⟩
theorem it_tup {K : PySem.W.Frag} {G : Hp} {a : Addr} {xs : List V} {ds : List PyData} (h : SqT K G a xs) (hd : RpAll K G xs ds) : ItOk K (Itt K a) ds G := by
  intro G' s' σ' H' ex S i
  have hH := Evl.ex_t S.gh (Evl.ex_t ex h)
  refine ⟨fun d e => ?_, fun hl => ⟨xs, hH, by rw [dps_len hd]; exact hl⟩⟩
  have hi : i < xs.length := by rw [dps_len hd]; exact (List.getElem?_eq_some_iff.mp e).1
  refine ⟨⟨xs, xs[i], hH, by simp [hi]⟩, fun x H2 ⟨e2, y⟩ => ?_⟩
  subst e2
  obtain ⟨d', e', r⟩ := dps_get hd (y xs hH)
  rw [e] at e'
  cases e'
  exact ⟨G', Stp.refl, S, dp_mono ex _ _ r⟩
def iSeq (K : PySem.W.Frag) (tl : TE) : TI := fun σ H R => tl σ H fun x H1 => (∃ a, x = .ref a ∧ (∃ xs, SqL K H1 a xs) ∧ R (Itl K a) H1) ∨ ∃ a, x = .ref a ∧ (∃ xs, SqT K H1 a xs) ∧ R (Itt K a) H1
theorem pi_seq {l : Expr} {tl : TE} (hl : PE X l tl) : PI X tg l (iSeq X.K tl) := by
  refine ⟨fun pins s σ H R I h => ?_⟩
  refine thn (hl.run pins s σ H _ I h) fun v s1 ⟨x, H1, I1, r1, q1⟩ => ?_
  rcases q1 with ⟨a, e, ⟨xs, hq⟩, q⟩ | ⟨a, e, ⟨xs, hq⟩, q⟩
  · subst e
    cases r1
    obtain ⟨its, rv, p, hz⟩ := I1.list hq
    refine wpAny_pyIter_list p.isList ?_
    refine ⟨s1.heap.objs.size, [s1.heap.objs.size], _, _, H1, rfl, I1.kept (t' := s1.toks) fun b o e => Heap.get?_push_of_some _ e, turn_list a _, ⟨_, Heap.get?_push_size _ rfl, rfl, rfl⟩, fun b hb => ?_, q⟩
    have e : b = s1.heap.objs.size := by simpa using hb
    subst e
    exact I1.fpOk (Nat.le_refl _) (I1.hok.fresh (Nat.le_refl _))
  · subst e
    cases r1
    obtain ⟨its, rv, p, hz⟩ := I1.tuple hq
    refine wpAny_pyIter_tuple (show s1.heap.IsTuple a its.toArray from p) ?_
    refine ⟨s1.heap.objs.size, [s1.heap.objs.size], _, _, H1, rfl, I1.kept (t' := s1.toks) fun b o e => Heap.get?_push_of_some _ e, turn_tuple a _, ⟨_, Heap.get?_push_size _ rfl, rfl, rfl⟩, fun b hb => ?_, q⟩
    have e : b = s1.heap.objs.size := by simpa using hb
    subst e
    exact I1.fpOk (Nat.le_refl _) (I1.hok.fresh (Nat.le_refl _))
def fLstI (f : M R) : M (List PyData) := bnd f fun r => bnd (fEsc r) fun r' s => match r' with
  | .val (.list ds) => .ok ds s
  | .val (.tuple ds) => .ok ds s
  | _ => .stuck
theorem i_list (h : DE X cl W e f) : DI X cl W tg e (fLstI f) := by
  refine pi_imp (pi_seq h) fun σ H R ⟨G, s, S, q⟩ => ?_
  refine ⟨G, s, S, out_mono (out_esc q) fun r G1 s1 H1 st1 S1 k v rr => ?_⟩
  obtain ⟨G2, s2, r2, st2, S2, ar, ex, k2⟩ := k v rr
  split at k2
  · rename_i ds
    cases (show Rp X.K G2 v (.list ds) from ar) with
    | lst hs ha => exact .inl ⟨_, rfl, ⟨_, .of (S2.gh _ _ hs)⟩, k2 G2 H1 Stp.refl S2 _ (it_list hs ha fun G' s' σ' H' ex' S' => S'.gh _ _ (ex' _ _ hs))⟩
  · rename_i ds
    cases (show Rp X.K G2 v (.tuple ds) from ar) with
    | tup hs ha => exact .inr ⟨_, rfl, ⟨_, .of (S2.gh _ _ hs)⟩, k2 G2 H1 Stp.refl S2 _ (it_tup (.of hs) ha)⟩
  · exact k2.elim
def fTupI (f : M R) : M (List PyData) := bnd f fun r s => match look r s with
  | some (.tuple ds) => .ok ds s
  | _ => .stuck
def rangeD (lo : Int) (n : Nat) : List PyData := (List.range n).map fun (k : Nat) => PyData.int (lo + (k : Int))
theorem it_range {K : PySem.W.Frag} {G : Hp} {lo : Int} {n : Nat} : ItOk K (Itr lo n) (rangeD lo n) G := by
  intro G' s' σ' H' ex S i
  refine ⟨fun d e => ?_, fun hl => show n ≤ i by simpa [rangeD] using hl⟩
  have hi : i < n := by have := (List.getElem?_eq_some_iff.mp e).1; simpa [rangeD] using this
  have e2 : d = .int (lo + (i : Int)) := by simp [rangeD, hi] at e; exact e.symm
  subst e2
  exact ⟨hi, fun x H2 ⟨e1, e3⟩ => by subst e1 e3; exact ⟨G', Stp.refl, S, .int _⟩⟩
def fRng1 (fs : M (List R)) : M (List PyData) := bnd fs fun rs s => match rs with
  | [r] => match look r s with
    | some (.int j) => if inB j then .ok (rangeD 0 j.toNat) s else .stuck
    | _ => .stuck
  | _ => .stuck
theorem i_range1 {p pos : Pos} (hg : Gl X "range") (hm : X.mg "range" = none) (ha : DA X cl W [a] fs) (hs : starEach [a] X.env = [(false, eval a X.env)] := by rfl) : DI X cl W tg (.Call (.Name "range" p) [a] [] pos) (fRng1 fs) := by
  refine pi_imp (pi_range1 hg hm ha hs) fun σ H R ⟨G, s, S, q⟩ => ?_
  refine ⟨G, s, S, out_mono (out_bind q) fun rs G1 s1 H1 st1 S1 k vs rr => ?_⟩
  split at k
  · rename_i r
    split at k
    · rename_i j e
      split at k
      · rename_i hb
        cases rr with
        | cons r1 r2 =>
          cases r2
          obtain rfl := dq_int (look_q S1 r1 e)
          exact ⟨j, rfl, hb.1, hb.2, k G1 H1 Stp.refl S1 _ it_range⟩
      · exact k.elim
    · exact k.elim
  · exact k.elim
def fRng2 (fs : M (List R)) : M (List PyData) := bnd fs fun rs s => match rs with
  | [r, r2] => match look r s, look r2 s with
    | some (.int i), some (.int j) => if inB i ∧ inB j then .ok (rangeD i (j - i).toNat) s else .stuck
    | _, _ => .stuck
  | _ => .stuck
theorem i_range2 {p pos : Pos} (hg : Gl X "range") (hm : X.mg "range" = none) (ha : DA X cl W [a, b] fs) (hs : starEach [a, b] X.env = [(false, eval a X.env), (false, eval b X.env)] := by rfl) (hs2 : starEach [b] X.env = [(false, eval b X.env)] := by rfl) :
    DI X cl W tg (.Call (.Name "range" p) [a, b] [] pos) (fRng2 fs) := by
  refine pi_imp (pi_range2 hg hm ha hs hs2) fun σ H R ⟨G, s, S, q⟩ => ?_
  refine ⟨G, s, S, out_mono (out_bind q) fun rs G1 s1 H1 st1 S1 k vs rr => ?_⟩
  split at k
  · split at k
    · rename_i i j e1 e2
      split at k
      · rename_i hb
        cases rr with
        | cons r1 r2 =>
          cases r2 with
          | cons r2 r3 =>
            cases r3
            obtain rfl := dq_int (look_q S1 r1 e1)
            obtain rfl := dq_int (look_q S1 r2 e2)
            exact ⟨i, j, rfl, ⟨hb.1.1, hb.1.2, hb.2.1, hb.2.2⟩, k G1 H1 Stp.refl S1 _ it_range⟩
      · exact k.elim
    · exact k.elim
  · exact k.elim
def enumD (ds : List PyData) : List PyData := ds.zipIdx.map fun p => .tuple [.int (p.2 : Int), p.1]
theorem it_enum {K : PySem.W.Frag} {G : Hp} {a : Addr} {xs : List V} {ds : List PyData} (h : G a = some (.lst xs)) (hd : RpAll K G xs ds) : ItOk K (Ite K a) (enumD ds) G := by
  intro G' s' σ' H' ex S i
  have hH : H' a = some (.lst xs) := S.gh _ _ (ex _ _ h)
  refine ⟨fun d e => ?_, fun hl => ⟨xs, .of hH, by rw [dps_len hd]; simpa [enumD] using hl⟩⟩
  have hi : i < ds.length := by have := (List.getElem?_eq_some_iff.mp e).1; simpa [enumD] using this
  have hx : i < xs.length := by rw [dps_len hd]; exact hi
  have e2 : d = .tuple [.int (i : Int), ds[i]] := by
    simp [enumD, hi] at e
    exact e.symm
  subst e2
  refine ⟨⟨xs, xs[i], .of hH, by simp [hx]⟩, fun x H2 ⟨T, y, e3, hT, e4, hy⟩ => ?_⟩
  subst e3 e4
  obtain ⟨d', e', r⟩ := dps_get hd (hy xs (.of hH))
  have e5 : d' = ds[i] := by rw [List.getElem?_eq_getElem hi] at e'; exact (Option.some.inj e').symm
  subst e5
  obtain ⟨st, S2⟩ := new_known (.tup [.int (i : Nat), y]) S hT
  exact ⟨_, st, S2, .tup upd_same (.cons (.int _) (.cons (dp_mono (ex.trans st.ex) _ _ r) .nil))⟩
def fEnum (fs : M (List R)) : M (List PyData) := bnd fs fun rs s => match rs with
  | [.val (.list ds)] => .ok (enumD ds) s
  | _ => .stuck
theorem i_enum {p pos tpos : Pos} {elts : List Expr} {kk : Nat} (hg : Gl X "enumerate") (hm : X.mg "enumerate" = none) (ha : DAe X cl W [e] fs) (hs : starEach [e] X.env = [(false, eval e X.env)] := by rfl) :
    DI X cl W (.Tuple elts kk tpos) (.Call (.Name "enumerate" p) [e] [] pos) (fEnum fs) := by
  refine pi_imp (pi_enum hg hm ha hs) fun σ H R ⟨G, s, S, q⟩ => ?_
  refine ⟨G, s, S, out_mono (out_bind q) fun rs G1 s1 H1 st1 S1 k vs rr => ?_⟩
  split at k
  · rename_i ds
    cases rr with
    | cons r1 r2 =>
      cases r2
      cases (show Rp X.K G1 _ (.list ds) from r1) with
      | lst h ha => exact ⟨_, _, rfl, .of (S1.gh _ _ h), k G1 H1 Stp.refl S1 _ (it_enum h ha)⟩
  · exact k.elim
def zipD (ds es : List PyData) : List PyData := (ds.zip es).map fun p => .tuple [p.1, p.2]
theorem it_zip {K : PySem.W.Frag} {G : Hp} {a b : Addr} {xs ys : List V} {ds es : List PyData} (h : G a = some (.lst xs)) (hd : RpAll K G xs ds) (h2 : G b = some (.lst ys)) (hd2 : RpAll K G ys es) : ItOk K (Itz K a b) (zipD ds es) G := by
  intro G' s' σ' H' ex S i
  have hH : H' a = some (.lst xs) := S.gh _ _ (ex _ _ h)
  have hH2 : H' b = some (.lst ys) := S.gh _ _ (ex _ _ h2)
  refine ⟨fun d e => ?_, fun hl => ⟨xs, ys, .of hH, .of hH2, ?_⟩⟩
  · have hi : i < ds.length ∧ i < es.length := by have := (List.getElem?_eq_some_iff.mp e).1; simp [zipD] at this; omega
    have hx : i < xs.length := by rw [dps_len hd]; exact hi.1
    have hy : i < ys.length := by rw [dps_len hd2]; exact hi.2
    have e2 : d = .tuple [ds[i], es[i]] := by
      have hz : i < (ds.zip es).length := by simp; omega
      simp only [zipD, List.getElem?_map, List.getElem?_eq_getElem hz, Option.map_some, List.getElem_zip] at e
      exact (Option.some.inj e).symm
    subst e2
    refine ⟨⟨xs, ys, xs[i], ys[i], .of hH, .of hH2, by simp [hx], by simp [hy]⟩, fun x H2 ⟨T, y, z, e3, hT, e4, q1, q2⟩ => ?_⟩
    subst e3 e4
    obtain ⟨d', e', r⟩ := dps_get hd (q1 xs (.of hH))
    obtain ⟨d2, e5, r2⟩ := dps_get hd2 (q2 ys (.of hH2))
    have e6 : d' = ds[i] := by rw [List.getElem?_eq_getElem hi.1] at e'; exact (Option.some.inj e').symm
    have e7 : d2 = es[i] := by rw [List.getElem?_eq_getElem hi.2] at e5; exact (Option.some.inj e5).symm
    subst e6 e7
    obtain ⟨st, S2⟩ := new_known (.tup [y, z]) S hT
    exact ⟨_, st, S2, .tup upd_same (.cons (dp_mono (ex.trans st.ex) _ _ r) (.cons (dp_mono (ex.trans st.ex) _ _ r2) .nil))⟩
  · rw [dps_len hd, dps_len hd2]
    simp [zipD] at hl
    omega
def fZip (fs : M (List R)) : M (List PyData) := bnd fs fun rs s => match rs with
  | [.val (.list ds), .val (.list es)] => .ok (zipD ds es) s
  | _ => .stuck
theorem i_zip {e2 : Expr} {p pos tpos : Pos} {elts : List Expr} {kk : Nat} (hg : Gl X "zip") (hm : X.mg "zip" = none) (ha : DAe X cl W [e, e2] fs) (h : ∀ {ta : TA}, PA X [e, e2] ta → PI X (.Tuple elts kk tpos) (.Call (.Name "zip" p) [e, e2] [] pos) (iZip X.K ta) := by intro ta h; exact pi_zip (by rfl) (by assumption) h) :
    DI X cl W (.Tuple elts kk tpos) (.Call (.Name "zip" p) [e, e2] [] pos) (fZip fs) := by
  refine pi_imp (h ha) fun σ H R ⟨G, s, S, q⟩ => ?_
  refine ⟨G, s, S, out_mono (out_bind q) fun rs G1 s1 H1 st1 S1 k vs rr => ?_⟩
  split at k
  · rename_i ds es
    cases rr with
    | cons r1 r2 =>
      cases r2 with
      | cons r2 r3 =>
        cases r3
        cases (show Rp X.K G1 _ (.list ds) from r1) with
        | lst h ha =>
          cases (show Rp X.K G1 _ (.list es) from r2) with
          | lst h' ha' => exact ⟨_, _, _, _, rfl, .of (S1.gh _ _ h), .of (S1.gh _ _ h'), k G1 H1 Stp.refl S1 _ (it_zip h ha h' ha')⟩
  · exact k.elim
end
end DL

/-! DL8: loops, comprehensions -/
noncomputable section
namespace DL
open PySem L2 PyProof.Rows
open Evl (Ex)
def loopF (b : Bd) (p : DSt → Flow) : List PyData → DSt → Flow
  | [], s => .next s
  | d :: ds, s => match b d s with
    | none => .stuck
    | some s1 => match p s1 with
      | .next s2 => loopF b p ds s2
      | .cnt s2 => loopF b p ds s2
      | .brk s2 => .next s2
      | .ret r s2 => .ret r s2
      | .err x s2 => .err x s2
      | .stuck => .stuck
def fFor (fi : M (List PyData)) (b : Bd) (p : DSt → Flow) : DSt → Flow := fun s => onRes (fi s) fun ds s' => loopF b p ds s'
def whileF (c : M Bool) (p : DSt → Flow) : Nat → DSt → Flow
  | 0, _ => .stuck
  | n + 1, s => onRes (c s) fun t s1 => if t then match p s1 with
      | .next s2 => whileF c p n s2
      | .cnt s2 => whileF c p n s2
      | .brk s2 => .next s2
      | .ret r s2 => .ret r s2
      | .err x s2 => .err x s2
      | .stuck => .stuck
    else .next s1
section
variable {X : Cx} {cl : String → Addr} {W : WX} {e a b c tg iter : Expr} {es : List Expr} {f g : M R} {fs : M (List R)} {fi : M (List PyData)} {pos : Pos} {p q : DSt → Flow}
theorem s_for {body : List Stmt} {gg : TG} {bd : Bd} {js : List Nat} (hp : PassesOwn (model X.prog X.w) X.A X.env X.xe) (hc : X.calm = true) (hi : DI X cl W tg iter fi) (hg : PG X tg gg) (ho : GOk X.K gg bd js) (hb : DSs X cl W body p)
    (hs : ∀ x, foldedSetIterable iter X.env x = pure x := by intro _; rfl) : DS X cl W (.For tg iter body [] pos) (fFor fi bd p) := by
  refine ps_imp (ps_for hp hc hi hg hb hs) fun D σ H ⟨G, s, S, h⟩ => ⟨G, s, S, out_mono (fout_res h) fun ds G1 s1 H1 st1 S1 k J hJ => ?_⟩
  have k := fout_shift st1 k
  refine ⟨fun i m σ2 H2 => ∃ G2 s2, SA X.K G2 s2 σ2 H2 ∧ Ex G1 G2 ∧ m = ds.length - i ∧ i ≤ ds.length ∧ FOut X.K cl W G2 s2 σ2 H2 (loopF bd p (ds.drop i) s2) D, ⟨ds.length, G1, s1, S1, Ex.refl G1, by simp, Nat.zero_le _, by simpa using k⟩, ?_⟩
  rintro i m σ2 H2 ⟨G2, s2, S2, ex2, rfl, hi, k2⟩
  obtain ⟨j1, j2⟩ := hJ G2 s2 σ2 H2 ex2 S2 i
  by_cases hl : i < ds.length
  · obtain ⟨go, yl⟩ := j1 ds[i] (List.getElem?_eq_getElem hl)
    rw [List.drop_eq_getElem_cons hl] at k2
    refine .inr ⟨go, fun σ3 H3 => ∃ G3 s3, SA X.K G3 s3 σ3 H3 ∧ Ex G1 G3 ∧ FOut X.K cl W G3 s3 σ3 H3 (loopF bd p (ds.drop (i + 1)) s3) D, fun σ3 H3 ⟨G3, s3, S3, ex3, k3⟩ => ⟨ds.length - (i + 1), by omega, G3, s3, S3, ex3, rfl, hl, k3⟩, fun x H3 y => ?_⟩
    obtain ⟨G3, st3, S3, rp⟩ := yl x H3 y
    unfold loopF at k2
    cases q : bd ds[i] s2 with
    | none => rw [q] at k2; exact k2.elim
    | some s4 =>
      rw [q] at k2
      refine ho x ds[i] G3 s2 σ2 H3 s4 _ S3 rp q fun σ4 l4 n4 m4 w4 st4 S4 => ⟨G3, s4, S4, ?_⟩
      have st34 := st3.trans st4
      have k2 := fout_shift st34 k2
      have ex4 := ex2.trans st34.ex
      dsimp only at k2 ⊢
      cases z : p s4 with
      | next s5 => rw [z] at k2; exact fun G5 σ5 H5 st5 S5 => ⟨G5, s5, S5, ex4.trans st5.ex, fout_shift st5 k2⟩
      | cnt s5 => rw [z] at k2; exact fun G5 σ5 H5 st5 S5 => ⟨G5, s5, S5, ex4.trans st5.ex, fout_shift st5 k2⟩
      | brk s5 => rw [z] at k2; exact fun G5 σ5 H5 st5 S5 => k2 G5 σ5 H5 st5 S5
      | ret r s5 => rw [z] at k2; exact k2
      | err x s5 => rw [z] at k2; exact k2
      | stuck => rw [z] at k2; exact k2
  · have e : i = ds.length := by omega
    subst e
    rw [List.drop_length] at k2
    exact .inl ⟨j2 (Nat.le_refl _), k2 G2 σ2 H2 Stp.refl S2⟩
theorem s_while {body : List Stmt} {t : M Bool} (n : Nat) (hp : PassesOwn (model X.prog X.w) X.A X.env X.xe) (hc : DT X cl W c t) (hb : DSs X cl W body p) : DS X cl W (.While c body [] pos) (whileF t p n) := by
  refine ps_imp (ps_while hp hc hb) fun D σ H ⟨G, s, S, h⟩ => ?_
  refine ⟨fun m σ2 H2 => ∃ G2 s2, SA X.K G2 s2 σ2 H2 ∧ FOut X.K cl W G2 s2 σ2 H2 (whileF t p m s2) D, ⟨n, G, s, S, h⟩, ?_⟩
  rintro m σ2 H2 ⟨G2, s2, S2, k2⟩
  cases m with
  | zero => exact k2.elim
  | succ m =>
    refine ⟨G2, s2, S2, out_mono (fout_res k2) fun b G3 s3 H3 st3 S3 k3 => ?_⟩
    have k3 := fout_shift st3 k3
    cases b with
    | false => exact k3 G3 σ2 H3 Stp.refl S3
    | true =>
      refine ⟨fun σ4 H4 => ∃ G4 s4, SA X.K G4 s4 σ4 H4 ∧ FOut X.K cl W G4 s4 σ4 H4 (whileF t p m s4) D, fun σ4 H4 ⟨G4, s4, S4, k4⟩ => ⟨m, Nat.lt_succ_self _, G4, s4, S4, k4⟩, G3, s3, S3, ?_⟩
      simp only [if_true] at k3
      cases z : p s3 with
      | next s5 => rw [z] at k3; exact fun G5 σ5 H5 st5 S5 => ⟨G5, s5, S5, fout_shift st5 k3⟩
      | cnt s5 => rw [z] at k3; exact fun G5 σ5 H5 st5 S5 => ⟨G5, s5, S5, fout_shift st5 k3⟩
      | brk s5 => rw [z] at k3; exact fun G5 σ5 H5 st5 S5 => k3 G5 σ5 H5 st5 S5
      | ret r s5 => rw [z] at k3; exact k3
      | err x s5 => rw [z] at k3; exact k3
      | stuck => rw [z] at k3; exact k3
def fAsgB (f : M R) (bd : Bd) : DSt → Flow := fun s => onRes (bnd f fEsc s) fun r s' => match r with
  | .val d => match bd d s' with
    | some s2 => .next s2
    | none => .stuck
  | _ => .stuck
/-! ### comprehensions -/
def putBack (vs : List Nat) (old new : List Sl) : List Sl := vs.foldl (fun l v => l.set v (old.getD v .no)) new
def blank (vs : List Nat) (d : List Sl) : List Sl := vs.foldl (fun l v => l.set v .no) d
def noOwn (vs : List Nat) (d : List Sl) : Bool := vs.all fun v => match d[v]? with
  | some (.own _) => false
  | _ => true
def nerr {α : Type} (r : Res α) : Res α := match r with
  | .err _ _ => .stuck
  | r => r
def loopC (b : Bd) (ft : M Bool) (fe : M R) (vs : List Nat) : List PyData → List PyData → M (List PyData)
  | [], acc, s => .ok acc s
  | d :: ds, acc, s => if noOwn vs s.d then match b d { s with d := blank vs s.d } with
      | none => .stuck
      | some s1 => (nerr (ft s1)).bind fun t s2 => if t then (nerr (bnd fe fEsc s2)).bind fun r s3 => match r with
            | .val x => loopC b ft fe vs ds (acc ++ [x]) { s3 with d := putBack vs s.d s3.d }
            | _ => .stuck
          else loopC b ft fe vs ds acc { s2 with d := putBack vs s.d s2.d }
    else .stuck
def fLc (fi : M (List PyData)) (b : Bd) (ft : M Bool) (fe : M R) (vs : List Nat) : M R := bnd fi fun ds => bnd (fun s => if leS (ds.length) then loopC b ft fe vs ds [] s else .stuck) fun acc => ret (.new acc)
theorem blank_get (d : List Sl) (i : Nat) : ∀ vs : List Nat, (blank vs d)[i]? = if i ∈ vs then (if i < d.length then some .no else none) else d[i]? := by
  intro vs
  unfold blank
  induction vs generalizing d with
  | nil => simp
  | cons v vs ih =>
    rw [List.foldl_cons, ih]
    by_cases h : i ∈ vs
    · simp [h]
    · by_cases hv : i = v
      · subst hv; simp [h, List.getElem?_set]
      · simp [h, hv, List.getElem?_set_ne (Ne.symm hv)]
theorem blank_len (d : List Sl) : ∀ vs : List Nat, (blank vs d).length = d.length := by
  intro vs
  unfold blank
  induction vs generalizing d with
  | nil => rfl
  | cons v vs ih => rw [List.foldl_cons, ih]; simp
theorem back_len (old new : List Sl) : ∀ vs : List Nat, (putBack vs old new).length = new.length := by
  intro vs
  unfold putBack
  induction vs generalizing new with
  | nil => rfl
  | cons v vs ih => rw [List.foldl_cons, ih]; simp
theorem back_get (old new : List Sl) (i : Nat) : ∀ vs : List Nat, (putBack vs old new)[i]? = if i ∈ vs then (if i < new.length then some (old.getD i .no) else none) else new[i]? := by
  intro vs
  unfold putBack
  induction vs generalizing new with
  | nil => simp
  | cons v vs ih =>
    rw [List.foldl_cons, ih]
    by_cases h : i ∈ vs
    · simp [h]
    · by_cases hv : i = v
      · subst hv; simp [h, List.getElem?_set]
      · simp [h, hv, List.getElem?_set_ne (Ne.symm hv)]
theorem wipe_get (σ : L2.St) (i : Nat) : ∀ vs : List Nat, (wipe σ vs)[i]? = if i ∈ vs then (if i < σ.length then some none else none) else σ[i]? := by
  intro vs
  induction vs with
  | nil => simp [wipe]
  | cons v vs ih =>
    unfold wipe
    by_cases hv : i = v
    · subst hv
      simp [List.getElem?_set, wipe_length]
    · rw [List.getElem?_set_ne (Ne.symm hv), ih]
      simp [hv]
theorem wipe_same {σ σ' : L2.St} {vs : List Nat} (hl : σ'.length = σ.length) (h : ∀ i, i ∉ vs → σ'[i]? = σ[i]?) : wipe σ' vs = wipe σ vs := by
  apply List.ext_getElem?
  intro i
  rw [wipe_get, wipe_get, hl]
  by_cases q : i ∈ vs
  · simp [q]
  · simp [q, h i q]
theorem wipe_wipe (σ : L2.St) (vs : List Nat) : wipe (wipe σ vs) vs = wipe σ vs := wipe_same (wipe_length _ _) fun i hi => by rw [wipe_get]; simp [hi]
section
variable {K : PySem.W.Frag} {G H : Hp} {s : DSt} {σ : L2.St}
theorem own_blank {vs : List Nat} {i : Nat} {a : Addr} (h : OwnAt { s with d := blank vs s.d } (wipe σ vs) i a) : OwnAt s σ i a ∧ i ∉ vs := by
  obtain ⟨⟨ds, e⟩, h⟩ := h
  simp only [blank_get] at e
  by_cases q : i ∈ vs
  · rw [if_pos q] at e; split at e <;> cases e
  · rw [if_neg q] at e
    rw [wipe_get, if_neg q] at h
    exact ⟨⟨⟨ds, e⟩, h⟩, q⟩
theorem sa_blank (vs : List Nat) (S : SA K G s σ H) (hn : noOwn vs s.d = true) : Stp G s σ H G { s with d := blank vs s.d } (wipe σ vs) H ∧ SA K G { s with d := blank vs s.d } (wipe σ vs) H := by
  refine ⟨⟨Ex.refl G, fun a o h _ => ⟨h, rfl⟩, fun a z => .inl ?_, fun a h => h, fun a h => h⟩, ⟨by simp [blank_len, wipe_length, S.len], S.gh, fun i sl h => ?_, fun i j a h1 h2 => S.inj i j a (own_blank h1).1 (own_blank h2).1, fun i a h => S.ownG i a (own_blank h).1, S.pw, fun i a h => S.pne i a (own_blank h).1⟩⟩
  · rcases z with ⟨i, z⟩ | z
    · exact .inl ⟨i, (own_blank z).1⟩
    · exact .inr z
  · simp only [blank_get] at h
    by_cases q : i ∈ vs
    · rw [if_pos q] at h
      split at h
      · cases h; trivial
      · cases h
    · rw [if_neg q] at h
      rw [wipe_get, if_neg q]
      exact S.slot i sl h
theorem sa_back {G2 H2 : Hp} {s2 : DSt} {σ2 : L2.St} {vs : List Nat} (S : SA K G s σ H) (hn : noOwn vs s.d = true) (S2 : SA K G2 s2 σ2 H2) (ex : Ex G G2) (hw : wipe σ2 vs = wipe σ vs) :
    SA K G2 { s2 with d := putBack vs s.d s2.d } σ H2 ∧ ∀ a, Own { s2 with d := putBack vs s.d s2.d } σ a → Own s2 σ2 a := by
  have hl : σ2.length = σ.length := by rw [← wipe_length σ2 vs, hw, wipe_length]
  have hs : ∀ i, i ∉ vs → σ2[i]? = σ[i]? := fun i hi => by
    have := congrArg (fun l : L2.St => l[i]?) hw
    simp only [wipe_get, if_neg hi] at this
    exact this
  have ho : ∀ i a, OwnAt { s2 with d := putBack vs s.d s2.d } σ i a → OwnAt s2 σ2 i a := by
    rintro i a ⟨⟨ds, e⟩, h⟩
    simp only [back_get] at e
    by_cases q : i ∈ vs
    · rw [if_pos q] at e
      split at e
      · have e := Option.some.inj e
        have hn := List.all_eq_true.mp hn i q
        have e2 : s.d[i]? = some (.own ds) := by
          rw [List.getD_eq_getElem?_getD] at e
          cases z : s.d[i]? with
          | none => rw [z] at e; cases e
          | some o => rw [z] at e; simp at e; rw [e]
        rw [e2] at hn
        cases hn
      · cases e
    · rw [if_neg q] at e
      exact ⟨⟨ds, e⟩, by rw [hs i q]; exact h⟩
  refine ⟨⟨by simp [back_len, S2.len, hl], S2.gh, fun i sl h => ?_, fun i j a h1 h2 => S2.inj i j a (ho i a h1) (ho j a h2), fun i a h => S2.ownG i a (ho i a h), S2.pw, fun i a h => S2.pne i a (ho i a h)⟩, fun a z => ?_⟩
  · simp only [back_get] at h
    by_cases q : i ∈ vs
    · rw [if_pos q] at h
      split at h
      · have h := Option.some.inj h
        have hn := List.all_eq_true.mp hn i q
        rw [List.getD_eq_getElem?_getD] at h
        cases z : s.d[i]? with
        | none => rw [z] at h; simp at h; subst h; trivial
        | some o =>
          rw [z] at h
          simp at h
          subst h
          have sl := S.slot i _ z
          cases o with
          | no => trivial
          | val d => obtain ⟨v, e, hd⟩ := sl; exact ⟨v, e, dp_mono ex _ _ hd⟩
          | raw v => exact sl
          | ob o => obtain ⟨v, e, hd⟩ := sl; exact ⟨v, e, ob_mono ex hd⟩
          | own ds => rw [z] at hn; cases hn
      · cases h
    · rw [if_neg q] at h
      rw [← hs i q]
      exact S2.slot i sl h
  · rcases z with ⟨i, z⟩ | z
    · exact .inl ⟨i, ho i a z⟩
    · exact .inr z
end
theorem sa_write {K : PySem.W.Frag} {G H : Hp} {s : DSt} {σ : L2.St} {D : Addr} {o : HO} (S : SA K G s σ H) (hg : G D = none) (hn : ¬ Own s σ D) (hx : ∀ φ, H D ≠ some (.ext φ)) : SA K G s σ (upd H D o) := by
  refine ⟨S.len, fun a u h => ?_, fun i sl h => ?_, S.inj, S.ownG, ?_, S.pne⟩
  · rw [upd_ne fun z => by subst z; rw [hg] at h; cases h]; exact S.gh a u h
  · have q := S.slot i sl h
    cases sl with
    | no => trivial
    | val d => exact q
    | raw v => exact q
    | ob o => exact q
    | own es =>
      obtain ⟨a, xs, e, ha, hh⟩ := q
      refine ⟨a, xs, e, ?_, hh⟩
      rw [upd_ne fun z => hn (by
        subst z
        refine .inl ⟨i, ⟨es, h⟩, ?_⟩
        cases w : σ[i]? with
        | none => rw [w] at e; cases e
        | some o => rw [w] at e; simp at e; rw [e])]
      exact ha
  · exact pwok_to S.pw (fun b o h z => by rw [upd_ne fun q => hn (by subst q; exact .inr z)]; exact h) (fun b φ h => by rw [upd_ne fun q => by subst q; exact hx φ h]; exact h) fun b z => G_pown S.pw z
theorem lc_reads {K : PySem.W.Frag} {gg : TG} {bd : Bd} {js vs : List Nat} {ft : M Bool} {fe : M R} {fi : M (List PyData)} (ho : GOk K gg bd js) (hj : ∀ j ∈ js, j ∈ vs) {σ : L2.St} {H : Hp} {Q : VK} (q : tD K cl W (fLc fi bd ft fe vs) σ H Q) :
    tLc (tI K cl W fi) gg (tT K cl (fun _ _ _ _ => False) ft) (tD K cl (fun _ _ _ _ => False) fe) vs σ H Q := by
  obtain ⟨G, s, S, q⟩ := q
  refine ⟨G, s, S, out_mono (out_bind q) fun ds G1 s1 H1 st1 S1 k J hJ D hD => ?_⟩
  have k : Out K cl W G1 s1 σ H1 (if leS (ds.length) then loopC bd ft fe vs ds [] s1 else .stuck) _ := out_bind k
  by_cases hz : leS ds.length
  rotate_left
  · rw [if_neg hz] at k; exact k.elim
  rw [if_pos hz] at k
  have hz : ds.length ≤ sizeLine := hz
  obtain ⟨stD, SD, rrD⟩ := new_list (ds := []) S1 hD .nil st1.dom
  obtain ⟨aD, xD, eD, _, _, gD, _, nD⟩ := rrD
  cases eD
  refine ⟨fun i m H2 => ∃ G2 s2 acc accv, SA K G2 s2 σ H2 ∧ Stp G1 s1 σ H1 G2 s2 σ H2 ∧ H2 D = some (.lst accv) ∧ RpAll K G2 accv acc ∧ G2 D = none ∧ ¬ Own s2 σ D ∧ acc.length ≤ i ∧ m = ds.length - i ∧ i ≤ ds.length ∧
      Out K cl W G1 s1 σ H1 (loopC bd ft fe vs (ds.drop i) acc s2) _, ⟨ds.length, G1, s1, [], [], SD, stD, upd_same, .nil, gD, nD, Nat.le_refl _, by simp, Nat.zero_le _, by simpa using k⟩, ?_⟩
  rintro i m H2 ⟨G2, s2, acc, accv, S2, st2, hD2, hacc, gD2, nD2, hla, rfl, hi, k2⟩
  obtain ⟨j1, j2⟩ := hJ G2 s2 σ H2 st2.ex S2 i
  by_cases hl : i < ds.length
  · obtain ⟨go, yl⟩ := j1 ds[i] (List.getElem?_eq_getElem hl)
    rw [List.drop_eq_getElem_cons hl] at k2
    unfold loopC at k2
    refine .inr ⟨go, fun H3 => ∃ G3 s3 acc accv, SA K G3 s3 σ H3 ∧ Stp G1 s1 σ H1 G3 s3 σ H3 ∧ H3 D = some (.lst accv) ∧ RpAll K G3 accv acc ∧ G3 D = none ∧ ¬ Own s3 σ D ∧ acc.length ≤ i + 1 ∧
      Out K cl W G1 s1 σ H1 (loopC bd ft fe vs (ds.drop (i + 1)) acc s3) _, fun H3 ⟨G3, s3, acc, accv, a1, a2, a3, a4, a5, a6, a7, a8⟩ => ⟨ds.length - (i + 1), by omega, G3, s3, acc, accv, a1, a2, a3, a4, a5, a6, a7, rfl, hl, a8⟩, fun x H3 y => ?_⟩
    by_cases hn : noOwn vs s2.d = true
    rotate_left
    · rw [if_neg hn] at k2; exact k2.elim
    rw [if_pos hn] at k2
    obtain ⟨stB, SB⟩ := sa_blank vs S2 hn
    obtain ⟨j3, _⟩ := hJ G2 _ _ H2 st2.ex SB i
    obtain ⟨_, yl⟩ := j3 ds[i] (List.getElem?_eq_getElem hl)
    obtain ⟨G3, st3, S3, rp⟩ := yl x H3 y
    cases eb : bd ds[i] { s2 with d := blank vs s2.d } with
    | none => rw [eb] at k2; exact k2.elim
    | some s4 =>
      rw [eb] at k2
      refine ho x ds[i] G3 _ (wipe σ vs) H3 s4 _ S3 rp eb fun σ4 l4 n4 m4 w4 st4 S4 => ?_
      have hw : wipe σ4 vs = wipe σ vs := (wipe_same l4 fun i hi => n4 i fun z => hi (hj i z)).trans (wipe_wipe σ vs)
      refine ⟨hw, G3, s4, S4, ?_⟩
      have stA := (stB.trans st3).trans st4
      -- what holds behind the turn
      have fin : ∀ {G5 : Hp} {s5 : DSt} {H5 : Hp}, Stp G2 s2 σ H2 G5 s5 σ4 H5 → SA K G5 s5 σ4 H5 → SA K G5 { s5 with d := putBack vs s2.d s5.d } σ H5 ∧ Stp G1 s1 σ H1 G5 { s5 with d := putBack vs s2.d s5.d } σ H5 ∧ H5 D = some (.lst accv) ∧ G5 D = none ∧ ¬ Own { s5 with d := putBack vs s2.d s5.d } σ D := by
        intro G5 s5 H5 st5 S5
        obtain ⟨b1, b2⟩ := sa_back S2 hn S5 st5.ex hw
        obtain ⟨c1, c2⟩ := st5.keep D _ hD2 nD2
        have st6 : Stp G2 s2 σ H2 G5 { s5 with d := putBack vs s2.d s5.d } σ H5 := ⟨st5.ex, st5.keep, fun a z => st5.own a (b2 a z), st5.dom, st5.pw⟩
        exact ⟨b1, st2.trans st6, c1, c2.trans gD2, fun z => (st6.own D z).elim nD2 fun z => by rw [hD2] at z; cases z⟩
      have k2 : Out K cl W G1 s1 σ H1 ((nerr (ft s4)).bind _) _ := k2
      cases et : ft s4 with
      | err x s5 => rw [et] at k2; exact k2.elim
      | stuck => rw [et] at k2; exact k2.elim
      | ok t s5 =>
        rw [et] at k2
        intro G5 H5 st5 S5
        have st25 := stA.trans st5
        cases t with
        | false =>
          obtain ⟨b1, b2, b3, b4, b5⟩ := fin st25 S5
          exact ⟨G5, _, acc, accv, b1, b2, b3, dps_mono st25.ex _ _ hacc, b4, b5, Nat.le_succ_of_le hla, k2⟩
        | true =>
          have k2 : Out K cl W G1 s1 σ H1 ((nerr (bnd fe fEsc s5)).bind _) _ := k2
          refine ⟨G5, s5, S5, ?_⟩
          cases ef : fe s5 with
          | err x s6 => rw [bnd_app, ef] at k2; exact k2.elim
          | stuck => rw [bnd_app, ef] at k2; exact k2.elim
          | ok r s6 =>
            rw [bnd_app, ef] at k2
            intro G6 H6 st6 S6 v rr
            have k2 : Out K cl W G1 s1 σ H1 ((nerr (fEsc r s6)).bind _) _ := k2
            unfold fEsc at k2
            cases ee : esc r s6 with
            | none => rw [ee] at k2; exact k2.elim
            | some p =>
              obtain ⟨r2, s7⟩ := p
              rw [ee] at k2
              obtain ⟨G7, st7, S7, ex7, ar⟩ := esc_ok S6 st6 rr ee
              have st27 := st25.trans st7
              obtain ⟨b1, b2, b3, b4, b5⟩ := fin st27 S7
              cases r2 with
              | raw u => exact k2.elim
              | ob o => exact k2.elim
              | new u => exact k2.elim
              | slot u => exact k2.elim
              | val d =>
                have hacc7 := dps_mono st27.ex _ _ hacc
                refine ⟨accv, b3, ?_, G7, _, acc ++ [d], accv ++ [v], sa_write b1 b4 b5 (fun φ q => by rw [b3] at q; cases q), ⟨b2.ex, fun a o h1 h2 => ?_, b2.own, fun a h1 => ?_, b2.pw⟩, upd_same, dps_app hacc7 (.cons ar .nil), b4, b5, by simp; omega, k2⟩
                · rw [dps_len hacc]
                  omega
                · have ne : a ≠ D := fun z => by subst z; rw [hD] at h1; cases h1
                  rw [upd_ne ne]
                  exact b2.keep a o h1 h2
                · by_cases ne : a = D
                  · subst ne; rw [upd_same]; simp
                  · rw [upd_ne ne]; exact b2.dom a h1
  · have e : i = ds.length := by omega
    subst e
    rw [List.drop_length] at k2
    refine .inl ⟨j2 (Nat.le_refl _), ?_⟩
    have k3 := k2 G2 H2 st2 S2
    have k4 := k3 G2 H2 Stp.refl S2 (.ref D) ⟨D, accv, rfl, hD2, hacc, gD2, Classical.byContradiction fun z => st1.dom D z hD, nD2⟩
    exact k4
abbrev W0 : WX := fun _ _ _ _ => False
theorem d_lc {elt : Expr} {ifs : List Expr} {scope : Scope} {own : List (Str × Nat)} {gg : TG} {bd : Bd} {js : List Nat} {ft : M Bool} {fe : M R} (hc : X.calm = true) (hN : X.N.Nodup) (hi : DI X cl W tg iter fi) (ok : BlkOk X.N X.env.scope scope own) (ho : GOk X.K gg bd js) (hj : ∀ j ∈ js, j ∈ own.map (·.2))
    (hg : ∀ (s : Shared) (H : Hp) (C : Addr) (cl : List (Str × Addr)) (fp : List Addr), PG (X.blk s H scope (compEnvC scope cl C X.env) fp) tg gg) (ht : ∀ (s : Shared) (H : Hp) (C : Addr) (clo : List (Str × Addr)) (fp : List Addr), PTs (X.blk s H scope (compEnvC scope clo C X.env) fp) ifs (tT X.K cl W0 ft))
    (he : ∀ (s : Shared) (H : Hp) (C : Addr) (clo : List (Str × Addr)) (fp : List Addr), DE (X.blk s H scope (compEnvC scope clo C X.env) fp) cl W0 elt fe) (hs : ∀ x, foldedSetIterable iter X.env x = pure x := by intro _; rfl) :
    DE X cl W (.ListComp elt [⟨tg, iter, ifs, 0⟩] scope pos) (fLc fi bd ft fe (own.map (·.2))) := pe_imp (pe_lc hc hN hi ok hg ht he hs) fun σ H Q q => lc_reads ho hj q
theorem s_setLc {i : Nat} {y : Str} {py : Pos} {elt : Expr} {ifs : List Expr} {scope : Scope} {own : List (Str × Nat)} {spos : Pos} {gg : TG} {bd : Bd} {js : List Nat} {ft : M Bool} {fe : M R} (hc : X.calm = true) (hN : X.N.Nodup) (hy : X.N[i]? = some y) (hyl : X.env.scope.names.lookup y = some .local)
    (hsw : swapsWith (.ListComp elt [⟨tg, iter, ifs, 0⟩] scope pos) (some (.Name y py)) spos.line X.env = pure true) (hi : DI X cl W tg iter fi) (ok : BlkOk X.N X.env.scope scope own) (ho : GOk X.K gg bd js) (hj : ∀ j ∈ js, j ∈ own.map (·.2))
    (hg : ∀ (s : Shared) (H : Hp) (C : Addr) (cl : List (Str × Addr)) (fp : List Addr), PG (X.blk s H scope (compEnvC scope cl C X.env) fp) tg gg) (ht : ∀ (s : Shared) (H : Hp) (C : Addr) (clo : List (Str × Addr)) (fp : List Addr), PTs (X.blk s H scope (compEnvC scope clo C X.env) fp) ifs (tT X.K cl W0 ft))
    (he : ∀ (s : Shared) (H : Hp) (C : Addr) (clo : List (Str × Addr)) (fp : List Addr), DE (X.blk s H scope (compEnvC scope clo C X.env) fp) cl W0 elt fe) (hs : ∀ x, foldedSetIterable iter X.env x = pure x := by intro _; rfl) :
    DS X cl W (.Assign [.Name y py] (.ListComp elt [⟨tg, iter, ifs, 0⟩] scope pos) spos) (fSet i (fLc fi bd ft fe (own.map (·.2)))) := ps_imp (ps_setLc hc hN hy hyl hsw hi ok hg ht he hs) fun D σ H q => by
  have q' := set_reads q
  exact lc_reads ho hj q'
def fYes : M Bool := ret true
theorem dts_nil {K : PySem.W.Frag} : PTs X [] (tT K cl W fYes) := ⟨fun pins s σ H Q I ⟨G, st, S, h⟩ => pts_nil.run pins s σ H Q I (h G H Stp.refl S)⟩
theorem dts_one {t : M Bool} (h : DT X cl W c t) : PTs X [c] (tT X.K cl W t) := pts_one h
end
end DL

/-! DL9: built-ins, methods -/
noncomputable section
namespace DL
open PySem L2 PyProof.Rows
open Evl (Ex)
def looks : List R → DSt → Option (List PyData)
  | [], _ => some []
  | r :: rs, s => match look r s, looks rs s with
    | some d, some ds => some (d :: ds)
    | _, _ => none
theorem looks_q {K : PySem.W.Frag} {H0 G H : Hp} {s : DSt} {σ : L2.St} (S : SA K G s σ H) : ∀ {rs : List R} {vs : List V} {ds : List PyData}, RRels K H0 G s σ H vs rs → looks rs s = some ds → Paired (Dq K G H) vs ds
  | [], _, _, .nil, e => by cases e; exact .nil
  | r :: rs, _, ds, .cons h t, e => by
    simp only [looks] at e
    split at e
    · rename_i d es e1 e2
      cases e
      exact .cons (look_q S h e1) (looks_q S t e2)
    · cases e
def CallD (K : PySem.W.Frag) (r : List V → Hp → VK → Prop) (o : List PyData → Option R) : Prop := ∀ (G H : Hp) (vs : List V) (ds : List PyData) (r' : R) (Q : VK), Ex G H → Paired (Dq K G H) vs ds → o ds = some r' → Ans K G H r' Q → r vs H Q
def fCall (o : List PyData → Option R) (fs : M (List R)) : M R := bnd fs fun rs s => match looks rs s with
  | some ds => match o ds with
    | some (.slot _) => .stuck
    | some r => .ok r s
    | none => .stuck
  | none => .stuck
section
variable {X : Cx} {cl : String → Addr} {W : WX} {e a b c tg iter : Expr} {es : List Expr} {f g : M R} {fs : M (List R)} {fi : M (List PyData)} {pos : Pos} {p q : DSt → Flow}
theorem call_reads {K : PySem.W.Frag} {r : List V → Hp → VK → Prop} {o : List PyData → Option R} (h : CallD K r o) {σ : L2.St} {H : Hp} {Q : VK} (q : tD K cl W (fCall o fs) σ H Q) : tCB r (tA K cl W fs) σ H Q := by
  obtain ⟨G, s, S, q⟩ := q
  refine ⟨G, s, S, out_mono (out_bind q) fun rs G1 s1 H1 st1 S1 k vs hv => ?_⟩
  split at k
  · rename_i ds e1
    split at k
    · exact k.elim
    · rename_i r' ns ho
      exact h G1 H1 vs ds r' Q S1.gh (looks_q S1 hv e1) ho (ans_of S1 st1.dom (fun i z => ns i z) k)
    · exact k.elim
  · exact k.elim
theorem d_callB {x : Str} {p : Pos} {id : String} {r : List V → Hp → VK → Prop} {o : List PyData → Option R} (hc : CallR X (.builtin id) r) (h : CallD X.K r o) (hg : Gl X x) (hm : X.mg x = none) (hv : bootBuiltins x = some (.builtin id)) (ha : DA X cl W (e :: es) fs) (hn : x ≠ "__name__" := by decide) (hdb : (x == ("__debug__" : Str)) = false := by decide)
    (he : starEach (e :: es) X.env = (false, eval e X.env) :: starEach es X.env := by rfl) (hpl : (backTo pos (starEach es X.env)).any (·.1) = false := by rfl) : DE X cl W (.Call (.Name x p) (e :: es) [] pos) (fCall o fs) :=
  pe_imp (pe_callB hc hg hm hv ha hn hdb he hpl) fun σ H Q q => call_reads h q
theorem d_callTy {x : Str} {p : Pos} {T : String} {r : List V → Hp → VK → Prop} {o : List PyData → Option R} (hc : CallR X (.type T) r) (h : CallD X.K r o) (hg : Gl X x) (hm : X.mg x = none) (hv : bootBuiltins x = some (.type T)) (ha : DA X cl W (e :: es) fs) (hn : x ≠ "__name__" := by decide) (hdb : (x == ("__debug__" : Str)) = false := by decide)
    (he : starEach (e :: es) X.env = (false, eval e X.env) :: starEach es X.env := by rfl) (hpl : (backTo pos (starEach es X.env)).any (·.1) = false := by rfl) : DE X cl W (.Call (.Name x p) (e :: es) [] pos) (fCall o fs) :=
  pe_imp (pe_callTy hc hg hm hv ha hn hdb he hpl) fun σ H Q q => call_reads h q
theorem CallR.or' {f : Value} {r r' : List V → Hp → VK → Prop} (h : CallR X f r) (h' : CallR X f r') : CallR X f (fun vs H Q => r vs H Q ∨ r' vs H Q) := by
  intro pins s σ H vs us Q I rv q
  rcases q with q | q
  · exact h pins s σ H vs us Q I rv q
  · exact h' pins s σ H vs us Q I rv q
end
/-! the built-ins -/
def lenO : List PyData → Option R
  | [.list ds] => some (.val (.int ds.length))
  | [.tuple ds] => some (.val (.int ds.length))
  | [.str z] => if leS (z.length) then some (.val (.int z.length)) else none
  | _ => none
theorem cd_len {K : PySem.W.Frag} : CallD K (fun xs H Q => (∃ p ys, xs = [.ref p] ∧ (SqL K H p ys ∨ SqT K H p ys) ∧ Q (.int ys.length) H) ∨ ∃ z, xs = [.str z] ∧ z.length ≤ sizeLine ∧ Q (.int z.length) H) lenO := by
  intro G H vs ds r' Q ex hv ho k
  unfold lenO at ho
  split at ho
  · cases ho
    cases hv with
    | cons h t =>
      cases t
      obtain ⟨p, xs, rfl, hp, hx⟩ := dq_lst h
      refine .inl ⟨p, xs, rfl, .inl (.of hp), ?_⟩
      rw [dps_len hx]
      exact k.1 _ (.int _)
  · cases ho
    cases hv with
    | cons h t =>
      cases t
      obtain ⟨p, xs, rfl, hp, hx, _⟩ := dq_tup ex h
      refine .inl ⟨p, xs, rfl, .inr hp, ?_⟩
      rw [dps_len hx]
      exact k.1 _ (.int _)
  · split at ho
    · cases ho
      cases hv with
      | cons h t =>
        cases t
        obtain rfl := dq_str h
        exact .inr ⟨_, rfl, by assumption, k.1 _ (.int _)⟩
    · cases ho
  · cases ho
def listO : List PyData → Option R
  | [.list ds] => some (.new ds)
  | [.tuple ds] => some (.new ds)
  | _ => none
theorem cd_list {K : PySem.W.Frag} : CallD K (fun xs H Q => ∃ p ys, xs = [.ref p] ∧ (SqL K H p ys ∨ SqT K H p ys) ∧ ∀ l, H l = none → Q (.ref l) (upd H l (.lst ys))) listO := by
  intro G H vs ds r' Q ex hv ho k
  unfold listO at ho
  split at ho
  · cases ho
    cases hv with
    | cons h t =>
      cases t
      obtain ⟨p, xs, rfl, hp, hx⟩ := dq_lst h
      exact ⟨p, xs, rfl, .inl (.of hp), fun l hl => k l _ hl hx⟩
  · cases ho
    cases hv with
    | cons h t =>
      cases t
      obtain ⟨p, xs, rfl, hp, hx, _⟩ := dq_tup ex h
      exact ⟨p, xs, rfl, .inr hp, fun l hl => k l _ hl hx⟩
  · cases ho
def tupleO : List PyData → Option R
  | [.list ds] => some (.val (.tuple ds))
  | [.tuple ds] => some (.val (.tuple ds))
  | _ => none
def intsD : List PyData → Option (List Int)
  | [] => some []
  | .int i :: r => (intsD r).map (i :: ·)
  | _ :: _ => none
def boolsD : List PyData → Option (List Bool)
  | [] => some []
  | .bool i :: r => (boolsD r).map (i :: ·)
  | _ :: _ => none
theorem ints_rp {K : PySem.W.Frag} {G : Hp} : ∀ {ds : List PyData} {vs : List V} {ns : List Int}, RpAll K G vs ds → intsD ds = some ns → vs = ns.map V.int
  | [], _, _, h, e => by cases h; cases e; rfl
  | .int i :: r, _, ns, h, e => by
    cases h with
    | cons h1 h2 =>
      cases h1
      simp only [intsD] at e
      cases q : intsD r with
      | none => rw [q] at e; cases e
      | some ms => rw [q] at e; cases e; rw [ints_rp h2 q]; rfl
  | .none :: _, _, _, _, e | .bool _ :: _, _, _, _, e | .str _ :: _, _, _, _, e | .list _ :: _, _, _, _, e | .tuple _ :: _, _, _, _, e | .dict _ :: _, _, _, _, e => by cases e
theorem bools_rp {K : PySem.W.Frag} {G : Hp} : ∀ {ds : List PyData} {vs : List V} {ns : List Bool}, RpAll K G vs ds → boolsD ds = some ns → vs = ns.map V.bl
  | [], _, _, h, e => by cases h; cases e; rfl
  | .bool i :: r, _, ns, h, e => by
    cases h with
    | cons h1 h2 =>
      cases h1
      simp only [boolsD] at e
      cases q : boolsD r with
      | none => rw [q] at e; cases e
      | some ms => rw [q] at e; cases e; rw [bools_rp h2 q]; rfl
  | .none :: _, _, _, _, e | .int _ :: _, _, _, _, e | .str _ :: _, _, _, _, e | .list _ :: _, _, _, _, e | .tuple _ :: _, _, _, _, e | .dict _ :: _, _, _, _, e => by cases e
theorem rp_ints {K : PySem.W.Frag} {G : Hp} : ∀ ns : List Int, RpAll K G (ns.map V.int) (ns.map PyData.int)
  | [] => .nil
  | n :: ns => .cons (.int n) (rp_ints ns)
@[simp] theorem intsD_map : ∀ ns : List Int, intsD (ns.map PyData.int) = some ns
  | [] => rfl
  | n :: ns => by simp [intsD, intsD_map ns]
@[simp] theorem boolsD_map : ∀ ns : List Bool, boolsD (ns.map PyData.bool) = some ns
  | [] => rfl
  | n :: ns => by simp [boolsD, boolsD_map ns]
def allO : List PyData → Option R
  | [.list ds] => (boolsD ds).map fun bs => .val (.bool (bs.all id))
  | _ => none
def anyO : List PyData → Option R
  | [.list ds] => (boolsD ds).map fun bs => .val (.bool (bs.any id))
  | _ => none
def sumO : List PyData → Option R
  | [.list ds] => (intsD ds).map fun bs => .val (.int bs.sum)
  | _ => none
theorem cd_all {K : PySem.W.Frag} : CallD K (rAll K) allO := by
  intro G H vs ds r' Q ex hv ho k
  unfold allO at ho
  split at ho
  · cases hv with
    | cons h t =>
      cases t
      obtain ⟨p, xs, rfl, hp, hx⟩ := dq_lst h
      rename_i es
      cases q : boolsD es with
      | none => rw [q] at ho; cases ho
      | some bs => rw [q] at ho; cases ho; exact ⟨p, bs, rfl, .of (by rw [← bools_rp hx q]; exact hp), k.1 _ (.bl _)⟩
  · cases ho
def maxI : List Int → Int
  | [] => 0
  | n :: ns => ns.foldl max n
def minI : List Int → Int
  | [] => 0
  | n :: ns => ns.foldl min n
theorem foldl_max_ge : ∀ (ns : List Int) (n : Int), n ≤ ns.foldl max n ∧ (∀ y ∈ ns, y ≤ ns.foldl max n) ∧ (ns.foldl max n = n ∨ ns.foldl max n ∈ ns)
  | [], n => by simp
  | m :: ns, n => by
    obtain ⟨h1, h2, h3⟩ := foldl_max_ge ns (max n m)
    simp only [List.foldl_cons, List.mem_cons]
    refine ⟨by omega, fun y hy => ?_, ?_⟩
    · rcases hy with rfl | hy
      · omega
      · exact h2 y hy
    · rcases h3 with h3 | h3
      · rcases Int.le_total n m with q | q
        · right; left; rw [h3]; omega
        · left; rw [h3]; omega
      · exact .inr (.inr h3)
theorem foldl_min_le : ∀ (ns : List Int) (n : Int), ns.foldl min n ≤ n ∧ (∀ y ∈ ns, ns.foldl min n ≤ y) ∧ (ns.foldl min n = n ∨ ns.foldl min n ∈ ns)
  | [], n => by simp
  | m :: ns, n => by
    obtain ⟨h1, h2, h3⟩ := foldl_min_le ns (min n m)
    simp only [List.foldl_cons, List.mem_cons]
    refine ⟨by omega, fun y hy => ?_, ?_⟩
    · rcases hy with rfl | hy
      · omega
      · exact h2 y hy
    · rcases h3 with h3 | h3
      · rcases Int.le_total n m with q | q
        · left; rw [h3]; omega
        · right; left; rw [h3]; omega
      · exact .inr (.inr h3)
theorem maxI_mem {ns : List Int} (h : ns ≠ []) : maxI ns ∈ ns := by
  cases ns with
  | nil => exact (h rfl).elim
  | cons n ns =>
    show ns.foldl max n ∈ n :: ns
    rcases (foldl_max_ge ns n).2.2 with q | q
    · rw [q]; exact List.mem_cons_self
    · exact List.mem_cons_of_mem _ q
theorem maxI_ge {ns : List Int} {y : Int} (h : y ∈ ns) : y ≤ maxI ns := by
  cases ns with
  | nil => cases h
  | cons n ns =>
    unfold maxI
    rcases List.mem_cons.mp h with rfl | h
    · exact (foldl_max_ge ns y).1
    · exact (foldl_max_ge ns n).2.1 y h
theorem minI_mem {ns : List Int} (h : ns ≠ []) : minI ns ∈ ns := by
  cases ns with
  | nil => exact (h rfl).elim
  | cons n ns =>
    show ns.foldl min n ∈ n :: ns
    rcases (foldl_min_le ns n).2.2 with q | q
    · rw [q]; exact List.mem_cons_self
    · exact List.mem_cons_of_mem _ q
theorem minI_le {ns : List Int} {y : Int} (h : y ∈ ns) : minI ns ≤ y := by
  cases ns with
  | nil => cases h
  | cons n ns =>
    unfold minI
    rcases List.mem_cons.mp h with rfl | h
    · exact (foldl_min_le ns y).1
    · exact (foldl_min_le ns n).2.1 y h
def maxO : List PyData → Option R
  | [.list ds] => match intsD ds with
    | some (n :: ns) => some (.val (.int (maxI (n :: ns))))
    | _ => none
  | [.int i, .int j] => some (.val (.int (if j > i then j else i)))
  | _ => none
def minO : List PyData → Option R
  | [.list ds] => match intsD ds with
    | some (n :: ns) => some (.val (.int (minI (n :: ns))))
    | _ => none
  | [.int i, .int j] => some (.val (.int (if j < i then j else i)))
  | _ => none
theorem cd_max {K : PySem.W.Frag} : CallD K (fun vs H Q => rMax K vs H Q ∨ ∃ i j, vs = [.int i, .int j] ∧ Q (.int (if j > i then j else i)) H) maxO := by
  intro G H vs ds r' Q ex hv ho k
  unfold maxO at ho
  split at ho
  · cases hv with
    | cons h t =>
      cases t
      obtain ⟨p, xs, rfl, hp, hx⟩ := dq_lst h
      split at ho
      · rename_i n ns q
        cases ho
        refine .inl ⟨p, n :: ns, rfl, .of (by rw [← ints_rp hx q]; exact hp), by simp, fun m hm hle => ?_⟩
        have e : m = maxI (n :: ns) := Int.le_antisymm (maxI_ge hm) (hle _ (maxI_mem (by simp)))
        rw [e]
        exact k.1 _ (.int _)
      · cases ho
  · cases ho
    cases hv with
    | cons h t =>
      cases t with
      | cons h2 t =>
        cases t
        obtain rfl := dq_int h
        obtain rfl := dq_int h2
        exact .inr ⟨_, _, rfl, k.1 _ (.int _)⟩
  · cases ho
theorem cd_min {K : PySem.W.Frag} : CallD K (fun vs H Q => rMin K vs H Q ∨ ∃ i j, vs = [.int i, .int j] ∧ Q (.int (if j < i then j else i)) H) minO := by
  intro G H vs ds r' Q ex hv ho k
  unfold minO at ho
  split at ho
  · cases hv with
    | cons h t =>
      cases t
      obtain ⟨p, xs, rfl, hp, hx⟩ := dq_lst h
      split at ho
      · rename_i n ns q
        cases ho
        refine .inl ⟨p, n :: ns, rfl, .of (by rw [← ints_rp hx q]; exact hp), by simp, fun m hm hle => ?_⟩
        have e : m = minI (n :: ns) := Int.le_antisymm (hle _ (minI_mem (by simp))) (minI_le hm)
        rw [e]
        exact k.1 _ (.int _)
      · cases ho
  · cases ho
    cases hv with
    | cons h t =>
      cases t with
      | cons h2 t =>
        cases t
        obtain rfl := dq_int h
        obtain rfl := dq_int h2
        exact .inr ⟨_, _, rfl, k.1 _ (.int _)⟩
  · cases ho
def absO : List PyData → Option R
  | [.int i] => some (.val (.int (if i < 0 then -i else i)))
  | _ => none
def intO : List PyData → Option R
  | [.int i] => some (.val (.int i))
  | [.bool b] => some (.val (.int (if b then 1 else 0)))
  | _ => none
theorem cd_int {K : PySem.W.Frag} : CallD K (fun xs H Q => (∃ i, xs = [.int i] ∧ Q (.int i) H) ∨ ∃ k, xs = [.bl k] ∧ Q (.int (if k then 1 else 0)) H) intO := by
  intro G H vs ds r' Q ex hv ho k
  unfold intO at ho
  split at ho
  · cases ho
    cases hv with
    | cons h t =>
      cases t
      obtain rfl := dq_int h
      exact .inl ⟨_, rfl, k.1 _ (.int _)⟩
  · cases ho
    cases hv with
    | cons h t =>
      cases t
      obtain rfl := dq_bl h
      exact .inr ⟨_, rfl, k.1 _ (.int _)⟩
  · cases ho
def sortI (ns : List Int) : List Int := ns.mergeSort fun a b => decide (a ≤ b)
theorem sortI_perm (ns : List Int) : (sortI ns).Perm ns := List.mergeSort_perm _ _
theorem sortI_le (ns : List Int) : (sortI ns).Pairwise (· ≤ ·) := by
  have h := List.pairwise_mergeSort (le := fun a b : Int => decide (a ≤ b)) (fun a b c h1 h2 => by simp at *; omega) (fun a b => by simp; omega) ns
  exact h.imp fun h => by simpa using h
theorem perm_sorted_eq : ∀ {l m : List Int}, l.Perm m → l.Pairwise (· ≤ ·) → m.Pairwise (· ≤ ·) → l = m
  | [], m, h, _, _ => by have := h.length_eq; cases m with | nil => rfl | cons => simp at this
  | a :: l, [], h, _, _ => by have := h.length_eq; simp at this
  | a :: l, b :: m, h, h1, h2 => by
    have ha := (List.pairwise_cons.mp h1)
    have hb := (List.pairwise_cons.mp h2)
    have e1 : a ∈ b :: m := h.mem_iff.mp List.mem_cons_self
    have e2 : b ∈ a :: l := h.mem_iff.mpr List.mem_cons_self
    have e : a = b := by
      rcases List.mem_cons.mp e1 with e | e
      · exact e
      · rcases List.mem_cons.mp e2 with f | f
        · exact f.symm
        · have := ha.1 b f; have := hb.1 a e; omega
    subst e
    rw [perm_sorted_eq (List.Perm.cons_inv h) ha.2 hb.2]
theorem sortI_eq {ns ms : List Int} (h : ms.Perm ns) (h2 : ms.Pairwise (· ≤ ·)) : ms = sortI ns := perm_sorted_eq (h.trans (sortI_perm ns).symm) h2 (sortI_le ns)
def sortDD (ds : List PyData) : List PyData := ds.mergeSort (PySem.W.sortLe (PyProof.Rows.listOrd PyProof.Rows.itemOrd) false PySem.W.keyToks)
def canSort (ds : List PyData) : Prop := PySem.W.AllAlike ds ∧ PySem.W.Sortable ds ∧ ∀ d ∈ ds, d.depth ≤ 50
instance (ds : List PyData) : Decidable (canSort ds) := Classical.propDecidable _
def sortedO : List PyData → Option R
  | [.list ds] => match intsD ds with
    | some ns => some (.new ((sortI ns).map .int))
    | none => if canSort ds then some (.new (sortDD ds)) else none
  | _ => none
def rSortedD (K : PySem.W.Frag) : List V → Hp → VK → Prop := fun vs H Q => ∃ (a : Addr) (xs : List V) (ds : List PyData), vs = [.ref a] ∧ SqL K H a xs ∧ DpAll K H xs ds ∧ canSort ds ∧
  ∀ zs : List (V × PyData), zs.Perm (xs.zip ds) → zs.map (·.2) = sortDD ds → ∀ p, H p = none → Q (.ref p) (upd H p (.lst (zs.map (·.1))))
theorem each_of {α β : Type} {R : α → β → Prop} : ∀ {as : List α} {bs : List β}, as.length = bs.length → (∀ (i : Nat) (a : α) (b : β), as[i]? = some a → bs[i]? = some b → R a b) → PySem.W.EachIs R as bs
  | [], [], _, _ => .nil
  | [], _ :: _, h, _ => by simp at h
  | _ :: _, [], h, _ => by simp at h
  | a :: as, b :: bs, h, f => .cons (f 0 a b rfl rfl) (each_of (by simpa using h) fun i a b h1 h2 => f (i + 1) a b (by simpa using h1) (by simpa using h2))
theorem dpsAll_get {K : PySem.W.Frag} {H : Hp} : ∀ {ds : List PyData} {vs : List V} {i : Nat} {v : V}, DpAll K H vs ds → vs[i]? = some v → ∃ d, ds[i]? = some d ∧ Dp K H v d
  | [], _, i, v, h, e => by cases h; simp at e
  | d :: ds, _, 0, v, h, e => by
    cases h with
    | cons h1 h2 => simp at e; subst e; exact ⟨d, rfl, h1⟩
  | d :: ds, _, i + 1, v, h, e => by
    cases h with
    | cons h1 h2 => simpa using dpsAll_get (i := i) h2 (by simpa using e)
theorem dpsAll_len {K : PySem.W.Frag} {H : Hp} : ∀ {ds : List PyData} {vs : List V}, DpAll K H vs ds → vs.length = ds.length
  | [], _, h => by cases h; rfl
  | d :: ds, _, h => by
    cases h with
    | cons h1 h2 => simp [dpsAll_len h2]
theorem vals_paired : ∀ {zs : List (V × PyData)} {us : List Value}, PySem.W.EachIs (fun (u : Value) (z : V × PyData) => RelV z.1 u) us zs → Vals (zs.map (·.1)) us
  | _, _, .nil => .nil
  | _, _, .cons r t => .cons r (vals_paired t)
section
variable {X : Cx}
theorem cr_sortedD (hu : X.A.units + 64 < cLine) : CallR X (.builtin "sorted") (rSortedD X.K) := by
  intro pins s σ H vs us Q I rv h
  obtain ⟨a, xs, ds, rfl, hs, hd, ⟨c1, c2, c3⟩, q⟩ := h
  obtain ⟨its, r, pl, hz⟩ := I.list hs
  rw [Vals.ref1 rv]
  have lx := dpsAll_len hd
  have li : its.length = xs.length := r.length.symm
  obtain ⟨zs, ezs⟩ : ∃ zs, zs = xs.zip ds := ⟨_, rfl⟩
  have lz : zs.length = its.length := by rw [ezs, List.length_zip]; omega
  have zget : ∀ (i : Nat) (z : V × PyData), zs[i]? = some z → xs[i]? = some z.1 ∧ ds[i]? = some z.2 := fun i z e => by
    rw [ezs, List.getElem?_zip_eq_some] at e
    exact e
  have both : ∀ (i : Nat) (u : Value) (z : V × PyData), its[i]? = some u → zs[i]? = some z → RelV z.1 u ∧ z.2 ∈ ds ∧ ∀ h', (∀ b o, s.heap.get? b = some o → h'.get? b = some o) → ∃ as, Reads h' u z.2 as := by
    intro i u z e1 e2
    obtain ⟨g1, g2⟩ := zget i z e2
    obtain ⟨u', e3, rr⟩ := r.get g1
    rw [e1] at e3
    cases e3
    refine ⟨rr, List.mem_of_getElem? g2, fun h' hk => ?_⟩
    obtain ⟨d, e4, dp⟩ := dpsAll_get hd g1
    rw [g2] at e4
    cases e4
    have J : Inv X pins σ H { s with heap := h', toks := s.toks } := I.kept hk
    exact Dp.reads J z.2 z.1 u dp rr
  have hsz : its.length ≤ sizeLine := by rw [li]; exact hz
  have old : ∀ b o, s.heap.get? b = some o → (PySem.W.sortingHeap (PySem.W.copyHeap s.heap its) (s.heap.objs.size + 1) its).get? b = some o := fun b o e => PySem.W.sorting_copy_old e
  have eD : PySem.W.EachIs (fun v d => ∃ as, Reads (PySem.W.sortingHeap (PySem.W.copyHeap s.heap its) (s.heap.objs.size + 1) its) v d as) its ds := each_of (by omega) fun i u d e1 e2 => by
    obtain ⟨x, e3⟩ : ∃ x, xs[i]? = some x := by
      have := (List.getElem?_eq_some_iff.mp e1).1
      exact ⟨_, List.getElem?_eq_getElem (by omega : i < xs.length)⟩
    have ez : zs[i]? = some (x, d) := by rw [ezs, List.getElem?_zip_eq_some]; exact ⟨e3, e2⟩
    exact (both i u (x, d) e1 ez).2.2 _ old
  have un : X.A.in1.in1.units = X.A.units + 2 := rfl
  have S := PySem.W.SortsAt.data (prog := X.prog) (w := X.w) (A := X.A.in1.in1) (s := { s with heap := PySem.W.sortingHeap (PySem.W.copyHeap s.heap its) (s.heap.objs.size + 1) its }) eD c1 c2 fun d hd => by
    have := c3 d hd
    rw [un]
    omega
  refine PySem.W.sorted_vals pl.isList S hsz ?_
  have e1 : PySem.W.EachIs (fun (u : Value) (z : V × PyData) => RelV z.1 u) its zs := each_of lz.symm fun i u z g1 g2 => (both i u z g1 g2).1
  have e2 : PySem.W.EachIs (fun v (z : V × PyData) => (PySem.W.dataKind (PySem.W.sortingHeap (PySem.W.copyHeap s.heap its) (s.heap.objs.size + 1) its) ds).keyOf v = some (PySem.W.keyToks z.2)) its zs := each_of lz.symm fun i u z g1 g2 => by
    obtain ⟨_, md, rd⟩ := both i u z g1 g2
    obtain ⟨as, rd⟩ := rd _ old
    exact PySem.W.dataKind_some c1 md rd
  have e3 := PySem.W.sortVals_each (κ := PySem.W.dataKind (PySem.W.sortingHeap (PySem.W.copyHeap s.heap its) (s.heap.objs.size + 1) its) ds) (rev := false) (fun z : V × PyData => PySem.W.keyToks z.2) e1 e2
  obtain ⟨ys, ey⟩ : ∃ ys, ys = zs.mergeSort (PySem.W.sortLe (PyProof.Rows.listOrd PyProof.Rows.itemOrd) false fun z : V × PyData => PySem.W.keyToks z.2) := ⟨_, rfl⟩
  have py : ys.Perm zs := by rw [ey]; exact List.mergeSort_perm _ _
  have my : ys.map (·.2) = sortDD ds := by
    have ed : zs.map (·.2) = ds := by rw [ezs]; exact List.map_snd_zip (by omega)
    rw [ey, ← ed]
    exact PySem.W.sort_maps (fun z : V × PyData => z.2) fun _ _ _ _ => rfl
  obtain ⟨out, eo⟩ : ∃ out, out = PySem.W.sortVals (PySem.W.dataKind (PySem.W.sortingHeap (PySem.W.copyHeap s.heap its) (s.heap.objs.size + 1) its) ds) false its its := ⟨_, rfl⟩
  rw [← eo] at e3 ⊢
  have e3 : PySem.W.EachIs (fun (u : Value) (z : V × PyData) => RelV z.1 u) out ys := by rw [ey]; exact e3
  have vo := vals_paired e3
  obtain ⟨ep, he'⟩ := PyProof.Rows.sortedAll_at s.heap its out.toArray
  have hlen : (ys.map (·.1)).length ≤ sizeLine := by rw [List.length_map, py.length_eq]; omega
  exact ⟨.ref _, upd H (s.heap.objs.size + 1) (.lst (ys.map (·.1))), I.laid (t' := s.toks) (fun _ _ => PyProof.Rows.sortedAll_old) (Nat.le_succ _) ⟨hlen, out, ep, vo, he'⟩, rfl, q ys (by rw [← ezs]; exact py) my _ (I.hok.fresh (Nat.le_succ _))⟩
end
theorem rps_zip {K : PySem.W.Frag} {G : Hp} : ∀ {zs : List (V × PyData)}, (∀ z ∈ zs, Rp K G z.1 z.2) → RpAll K G (zs.map (·.1)) (zs.map (·.2))
  | [], _ => .nil
  | z :: zs, h => .cons (h z List.mem_cons_self) (rps_zip fun z hz => h z (List.mem_cons_of_mem _ hz))
theorem cd_sorted {K : PySem.W.Frag} : CallD K (fun vs H Q => rSortedI K vs H Q ∨ rSortedD K vs H Q) sortedO := by
  intro G H vs ds r' Q ex hv ho k
  unfold sortedO at ho
  split at ho
  · cases hv with
    | cons h t =>
      cases t
      obtain ⟨p, xs, rfl, hp, hx⟩ := dq_lst h
      rename_i es
      cases q : intsD es with
      | none =>
        rw [q] at ho
        dsimp only at ho
        split at ho
        · rename_i hc
          cases ho
          refine .inr ⟨p, xs, es, rfl, .of hp, rps_dps _ _ (dps_mono ex _ _ hx), hc, fun zs pz mz l hl => ?_⟩
          have rz : RpAll K G (zs.map (·.1)) (zs.map (·.2)) := rps_zip fun z hz => by
            have hz := pz.mem_iff.mp hz
            obtain ⟨i, hi, e⟩ := List.mem_iff_getElem.mp hz
            have e : (xs.zip es)[i]? = some z := by rw [List.getElem?_eq_getElem hi, e]
            rw [List.getElem?_zip_eq_some] at e
            obtain ⟨d, e2, rr⟩ := dps_get hx e.1
            rw [e.2] at e2
            cases e2
            exact rr
          rw [mz] at rz
          exact k l _ hl rz
        · cases ho
      | some ns =>
        rw [q] at ho
        cases ho
        refine .inl ⟨p, ns, rfl, .of (by rw [← ints_rp hx q]; exact hp), fun ms l h1 h2 hl => ?_⟩
        rw [sortI_eq h1 h2]
        exact k l _ hl (rp_ints _)
  · cases ho
end DL

/-! DLg: promises of defs that are called where nothing is being written out (A.guards = some []) -/
noncomputable section
namespace DL
open PySem L2 PySem.Spec PyProof.Rows
open Evl (Ex)
structure RoomG (k : Nat) (A : Around) : Prop where
  room : Room k A
  quiet : A.guards = some []
theorem RoomG.mono {j k : Nat} {A : Around} (r : RoomG k A) (h : j ≤ k) : RoomG j A := ⟨r.room.mono h, r.quiet⟩
theorem RoomG.units {k : Nat} {A : Around} (r : RoomG k A) : A.units + 64 < cLine := r.room.units
theorem RoomG.deeper {k : Nat} {A : Around} (r : RoomG (k + 1) A) (env : Env) : RoomG k (A.deeper env) := ⟨r.room.deeper env, r.quiet⟩
structure FnG (P : Program) (w : World) (K : PySem.W.Frag) (mg : Str → Option Value) (base : Heap) (CX : CXT) (k : Nat) (f : Addr) (fd : FuncData) (ps : List Str) (sp : Sp) : Prop where
  many : ∀ vs H Q E, sp vs H Q E → vs.length = ps.length
  goes : ∀ (A : Around) (outer : List Env) (st : Shared) (H : Hp) (args : Args) (us : List Value) (vs : List V) (Q : VK) (E : XK), RoomG k A → Env0 P w K mg base A outer st H → BindsTo st fd args (ps.zip us) → Vals vs us → sp vs H Q E →
    codeAny (model P w) A (.call (.ref f) args) (CR CX outer P w H st Q E) st
section
variable {X : Cx} {CX : CXT} {k : Nat} {f : Addr} {fd : FuncData} {ps : List Str} {sp : Sp} {E : L2.St → XK} {x : Str} {p pos : Pos} {e : Expr} {es : List Expr} {t : TA}
theorem run_G {pins : List (Addr × Obj)} {σ : L2.St} {H : Hp} {st : Shared} {Q : VK} {us : List Value} {vs : List V} (F : FnG X.prog X.w X.K X.mg X.base CX k f fd ps sp) (hr : RoomG k X.A) (hb : Binds X.K fd ps []) (hx : PassesAt CX X σ (E σ))
    (I : Inv X pins σ H st) (r : Vals vs us) (h : sp vs H Q (E σ)) : wpAny (model X.prog X.w) X.A (call (.ref f) us) (EP X pins σ Q) X.xe st := by
  have hl : us.length = ps.length := r.length.symm.trans (F.many _ _ _ _ h)
  have hbind := hb st us I.kIn (by simpa using hl)
  rw [List.append_nil] at hbind
  refine wpAny_call (codeAny_mono (F.goes X.A X.stack st H ⟨us, []⟩ us vs Q (E σ) hr I.env0 hbind r h) ?_)
  intro res st' hq
  match res, hq with
  | .error z, hq => exact hx pins H st z st' I hq
  | .ok (.ret u), hq => exact I.after hq
  | .ok .next, hq => exact hq.elim
  | .ok .brk, hq => exact hq.elim
  | .ok .cont, hq => exact hq.elim
theorem pe_callG (F : FnG X.prog X.w X.K X.mg X.base CX k f fd ps sp) (hr : RoomG k X.A) (hg : Gl X x) (hm : X.mg x = some (.ref f)) (hk : PySem.W.keepIn X.K (.ref f) = true) (hb : Binds X.K fd ps []) (hx : ∀ σ, PassesAt CX X σ (E σ))
    (ha : PA X (e :: es) t) (hdb : (x == ("__debug__" : Str)) = false := by decide) (he : starEach (e :: es) X.env = (false, eval e X.env) :: starEach es X.env := by rfl) (hpl : (backTo pos (starEach es X.env)).any (·.1) = false := by rfl) :
    PE X (.Call (.Name x p) (e :: es) [] pos) (tCallS sp E t) :=
  ⟨fun pins st σ H Q I h => wpAny_Call_Name_kw (ld_glob I hg hm (PySem.W.callWith_K (h₀ := X.base) I.ok.mod.kin hk (thn (ha.run pos pins st σ H _ I h) fun _ _ ⟨_, _, I1, r, q⟩ => ⟨I1.kIn, run_G F hr hb (hx σ) I1 r q⟩) he hpl) hdb)⟩
end
section
variable {P : Program} {w : World} {K : PySem.W.Frag} {mg : Str → Option Value} {base : Heap}
theorem okG {x qual : Str} {d : Stmt} {f : Addr} {fd : FuncData} {N ps : List Str} {k : Nat} {sp : Sp} (F : Fun K x qual d f fd) (S : FnScope N ps (defScope d)) (many : ∀ vs H Q E, sp vs H Q E → vs.length = ps.length)
    (hbody : ∀ (cdv : Value) (A : Around) (outer : List Env) (st : Shared) (H : Hp) (vs : List V) (Q : VK) (E : XK), RoomG k (A.deeper (envOfC qual (defScope d) st.heap.objs.size f cdv)) → sp vs H Q E →
      ∃ t, PSs (cxOf (L2.CX P w) P w K mg base N qual (defScope d) f cdv A outer st H E) (defBody d) t ∧ t { nx := fun _ H' => Q .non H', rt := Q } (start N vs) H) : FnG P w K mg base (L2.CX P w) (k + 1) f fd ps sp := by
  obtain ⟨oc, od, kV, doc, pm, an, cdv, ct, osl, rfl, lk, hcd⟩ := F.ex
  refine ⟨many, ?_⟩
  intro A outer st H args us vs Q E hr e0 hb r hsp
  have up : ∀ b o, base.get? b = some o → st.heap.get? b = some o := fun b o z => (e0.bs b o z).1
  have KX : K.In st.heap := e0.mod.kin.keeps up
  refine codeAny_call_function hr.room.depth (KX _ _ lk) rfl S.co S.gen rfl (PySem.W.codeRec_of KX hcd) (hb _ _ _ _ (wpAny_newFunctionEnv_cells S.kind (fun y hy => ?_) fun env he st1 z => ?_))
  · rcases S.par y.1 (List.of_mem_zip (a := y.1) (b := y.2) hy).1 with q | q
    · exact .inl q
    · exact .inr ⟨q, PySem.W.cellsFrom_some _ _ _ (.inl q)⟩
  · subst he
    obtain ⟨t, ht, hq⟩ := hbody cdv A outer st H vs Q E (hr.deeper _) hsp
    have I : Inv (cxOf (L2.CX P w) P w K mg base N qual (defScope d) f cdv A outer st H E) [] (start N vs) H st1 := inv_start S hr.room.hd e0 (many _ _ _ _ hsp) r z
    refine ⟨(e0.mod.nolimit.keeps up).keeps z.toInCall.keep, codeAny_func (wpAny_mono (ht.run [] st1 (start N vs) H _ I hq) ?_ fun _ _ hs => hs)⟩
    intro fl st' hs
    match fl, hs with
    | .ret u, ⟨v, _, H', J, rv, q⟩ => exact ⟨v, H', J.os, J.bare, J.base, J.hok, rv, q⟩
    | .next, ⟨_, H', J, q⟩ => exact ⟨V.non, H', J.os, J.bare, J.base, J.hok, rfl, q⟩
    | .brk, ⟨_, _, _, q⟩ => exact q.elim
    | .cont, ⟨_, _, _, q⟩ => exact q.elim
end
/-! ### the end: the law is called where nothing is being written out -/
theorem quiet_caller {k : Nat} (h : Room k callerA) : RoomG k callerA := ⟨h, rfl⟩
section
variable {P : Program} {w : World} {K : PySem.W.Frag} {mg mb : Str → Option Value} {k : Nat} {fa a : Addr} {fd : FuncData} {x : Str} {sp : Sp} {s1 : Shared} {us : List Value} {ns : List Int}
def LawEnd (s1 : Shared) (r : Result) (s2 : Shared) : Prop := r = .ok (.ret (.bool true)) ∧ OldK s1.heap s2.heap ∧ s2.os = s1.os ∧ AllBare s2.gens
theorem law_from {H : Hp} (KX : K.In s1.heap) (G1 : s1.heap.Ns mainGlobals mg) (G2 : s1.heap.Ns builtinsNs mb) (G3 : ∀ x : Str, x ≠ "__name__" → mb x = bootBuiltins x) (G4 : s1.heap.NoLimit) (G5 : s1.gens = #[])
    (scr : s1.heap.get? a = some { cls := .type "list", data := .seq us.toArray }) (hr : Room k callerA) (F : ∀ base : Heap, K.In base → base.Ns mainGlobals mg → FnG P w K mg base (L2.CX P w) k fa fd [x] sp)
    (bi : ∀ (st : Shared) (u : Value), BindsTo st fd ⟨[u], []⟩ [(x, u)]) (on : Only H) (pr : sp [.ref a] H (fun v _ => v = .bl true) fun _ _ _ => False) (hok : HOk P w H s1.heap) (one : ∀ b, H b ≠ none → b = a) (out : H a ≠ none → K.lookup a = none) :
    codeAny (model P w) callerA (.call (.ref fa) ⟨[.ref a], []⟩) (LawEnd s1) s1 := by
  have free : ∀ b, b ≠ a → H b = none := fun b nb => Classical.byContradiction fun z => nb (one b z)
  have stays : ∀ (b : Addr) (m : Str → Option Value), s1.heap.Ns b m → (hidT s1.heap H).Ns b m := by
    rintro b m ⟨o, es, ep, e, d, r⟩
    refine ⟨o, es, ep, hidT_get e (free b ?_), d, r⟩
    rintro rfl
    rw [scr] at e
    cases e
    exact absurd d (by intro z; cases z)
  have K1 : K.In (hidT s1.heap H) := fun b o e => hidT_get (KX b o e) (Classical.byContradiction fun z => by
    have := one b z
    subst this
    rw [out z] at e
    cases e)
  obtain ⟨mc, l1, l2⟩ := G4
  have e0 : Env0 P w K mg (hidT s1.heap H) callerA [] s1 H := ⟨rfl, ⟨K1, stays _ _ G1, ⟨mb, stays _ _ G2, G3⟩, ⟨mc, stays _ _ l1, l2⟩⟩, fun _ _ e => of_hidT e, Nat.le_of_eq (hidT_size _ _), trivial, fun _ hb => (by cases hb), hok, .of_eq G5⟩
  refine codeAny_mono ((F _ K1 (stays _ _ G1)).goes callerA [] s1 H ⟨[.ref a], []⟩ [.ref a] [.ref a] _ _ (quiet_caller hr) e0 (bi s1 (.ref a)) (.cons rfl .nil) pr) ?_
  intro r s2 h
  match r, h with
  | .error _, h =>
    obtain ⟨_, _, _, _, _, _, _, _, _, _, _, _, z⟩ := h
    exact z.elim
  | .ok .next, h => exact h.elim
  | .ok .brk, h => exact h.elim
  | .ok .cont, h => exact h.elim
  | .ok (.ret u), ⟨v, H2, os, bare, un, hok2, rv, q⟩ =>
    have q : v = .bl true := q
    subst q
    have rv : u = Value.bool true := rv
    subst rv
    refine ⟨rfl, OldK.of_keep fun b o e => ?_, os, bare⟩
    rcases on b with z | ⟨ob, xs, z⟩
    · exact un.keep b o e z (fun y => by cases y) (fun y => by cases y)
    · have g1 := (hok b _ z).1
      rw [e] at g1
      cases g1
      exact (hok2 b _ (un.frzs b _ _ z)).1
theorem law_goes (KX : K.In s1.heap) (G1 : s1.heap.Ns mainGlobals mg) (G2 : s1.heap.Ns builtinsNs mb) (G3 : ∀ x : Str, x ≠ "__name__" → mb x = bootBuiltins x) (G4 : s1.heap.NoLimit) (G5 : s1.gens = #[])
    (scr : s1.heap.get? a = some { cls := .type "list", data := .seq us.toArray }) (hi : IntsAre us ns) (hl : ns.length ≤ sizeLine) (hr : Room k callerA) (F : ∀ base : Heap, K.In base → base.Ns mainGlobals mg → FnG P w K mg base (L2.CX P w) k fa fd [x] sp)
    (bi : ∀ (st : Shared) (u : Value), BindsTo st fd ⟨[u], []⟩ [(x, u)]) (pr : ∀ H : Hp, Only H → SqL K H a (ns.map V.int) → sp [.ref a] H (fun v _ => v = .bl true) fun _ _ _ => False) :
    codeAny (model P w) callerA (.call (.ref fa) ⟨[.ref a], []⟩) (LawEnd s1) s1 := by
  have rv := vals_ints hi
  have no : ∀ {H : Hp}, (∀ b, H b = none) → Only H := fun h b => .inl (h b)
  cases hk : K.lookup a with
  | some o =>
    have e := KX a o hk
    rw [scr] at e
    cases e
    have lay : SqL K (fun _ => none) a (ns.map V.int) := .inr ⟨_, us.toArray, _, hk, rfl, rfl, rfl, by rw [List.size_toArray, hi.length]; exact hl, by simpa using rv⟩
    exact law_from (H := fun _ => none) KX G1 G2 G3 G4 G5 scr hr F bi (no fun _ => rfl) (pr _ (no fun _ => rfl) lay) (fun _ _ z => by cases z) (fun _ z => absurd rfl z) fun z => absurd rfl z
  | none =>
    obtain ⟨H, eH⟩ : ∃ H : Hp, H = upd (fun _ => none) a (.frz { cls := .type "list", data := .seq us.toArray } (.lst (ns.map V.int))) := ⟨_, rfl⟩
    have at_a : H a = some (.frz { cls := .type "list", data := .seq us.toArray } (.lst (ns.map V.int))) := by rw [eH, upd_same]
    have at_n : ∀ b, b ≠ a → H b = none := fun b nb => by rw [eH, upd_ne nb]
    have on : Only H := fun b => by
      by_cases hb : b = a
      · subst hb; exact .inr ⟨_, _, at_a⟩
      · exact .inl (at_n b hb)
    refine law_from KX G1 G2 G3 G4 G5 scr hr F bi on (pr H on (.inl (.inr ⟨_, at_a⟩))) (fun b u z => ?_) (fun b z => Classical.byContradiction fun nb => z (at_n b nb)) fun _ => hk
    by_cases hb : b = a
    · subst hb
      rw [at_a] at z
      cases z
      exact ⟨scr, by rw [List.length_map]; exact hl, us, _, rv, scr⟩
    · rw [at_n b hb] at z
      cases z
end
end DL

/-! DL10: calls of the program's own defs; a def -/
noncomputable section
namespace DL
open PySem L2 PyProof.Rows
open Evl (Ex)
structure FStp (G : Hp) (w : Pw) (H : Hp) (G' : Hp) (w' : Pw) (H' : Hp) : Prop where
  ex : Ex G G'
  gh : Ex G' H'
  keep : ∀ a o, H a = some o → ¬ POwn w a → H' a = some o ∧ G' a = G a
  own : ∀ a, POwn w' a → POwn w a ∨ H a = none
  dom : ∀ a, H a ≠ none → H' a ≠ none
  pw : ∀ a, POwn w a → POwn w' a
def FRel (K : PySem.W.Frag) (H G' : Hp) (w' : Pw) (H' : Hp) (v : V) : R → Prop
  | .val d => Rp K G' v d
  | .raw u => v = u
  | .ob o => ObRel K G' v o
  | .slot _ => False
  | .new ds => ∃ a xs, v = .ref a ∧ H' a = some (.lst xs) ∧ RpAll K G' xs ds ∧ G' a = none ∧ H a = none ∧ ¬ POwn w' a
def spF (K : PySem.W.Frag) (cl : String → Addr) (F : List R → Pw → FRes) : Sp := fun vs H Q E => ∃ (G : Hp) (rs : List R) (w : Pw), Ex G H ∧ Paired (AR K G) vs rs ∧ PwOk G w H ∧ match F rs w with
  | .ok r w' => ∀ v G' H', FStp G w H G' w' H' → PwOk G' w' H' → FRel K H G' w' H' v r → Q v H'
  | .err x w' => ∀ cls d G' H', FStp G w H G' w' H' → PwOk G' w' H' → XRel K cl x cls d G' → E cls d H'
  | .stuck => False
def fUser (F : List R → Pw → FRes) (fs : M (List R)) : M R := bnd fs fun rs s => match F rs s.w with
  | .ok r w' => .ok r { s with w := w' }
  | .err x w' => .err x { s with w := w' }
  | .stuck => .stuck
section
variable {K : PySem.W.Frag} {G H G' H' : Hp} {s : DSt} {σ : L2.St} {w' : Pw}
theorem call_stp (S : SA K G s σ H) (f : FStp G s.w H G' w' H') (pw : PwOk G' w' H') : Stp G s σ H G' { s with w := w' } σ H' ∧ SA K G' { s with w := w' } σ H' := by
  have own : ∀ i a, OwnAt s σ i a → H a ≠ none ∧ ¬ POwn s.w a := fun i a z => ⟨by obtain ⟨xs, e⟩ := S.ownL z; rw [e]; simp, S.pne i a z⟩
  refine ⟨⟨f.ex, fun a o h n => f.keep a o h fun z => n (.inr z), fun a z => ?_, f.dom, f.pw⟩, ⟨S.len, f.gh, fun i sl h => ?_, S.inj, fun i a z => ?_, pw, fun i a z q => ?_⟩⟩
  · rcases z with z | z
    · exact .inl (.inl z)
    · exact (f.own a z).imp .inr id
  · have q := S.slot i sl h
    cases sl with
    | no => trivial
    | val d => obtain ⟨v, e, hd⟩ := q; exact ⟨v, e, dp_mono f.ex _ _ hd⟩
    | raw v => exact q
    | ob o => obtain ⟨v, e, hd⟩ := q; exact ⟨v, e, ob_mono f.ex hd⟩
    | own es =>
      obtain ⟨a, xs, e, ha, hh⟩ := q
      have e' : σ[i]? = some (some (.ref a)) := by
        cases z : σ[i]? with
        | none => rw [z] at e; cases e
        | some o => rw [z] at e; simp at e; rw [e]
      exact ⟨a, xs, e, (f.keep a _ ha (own i a ⟨⟨es, h⟩, e'⟩).2).1, dps_mono f.ex _ _ hh⟩
  · obtain ⟨xs, e⟩ := S.ownL z
    rw [(f.keep a _ e (own i a z).2).2]
    exact S.ownG i a z
  · rcases f.own a q with q | q
    · exact (own i a z).2 q
    · exact (own i a z).1 q
end
section
variable {X : Cx} {cl : String → Addr} {W : WX} {e : Expr} {es : List Expr} {fs : M (List R)} {pos : Pos}
theorem user_reads {K : PySem.W.Frag} {F : List R → Pw → FRes} {σ : L2.St} {H : Hp} {Q : VK} (q : tD K cl W (fUser F fs) σ H Q) : tCallS (spF K cl F) (WE W) (tAe K cl W fs) σ H Q := by
  obtain ⟨G, s, S, q⟩ := q
  refine ⟨G, s, S, out_mono (out_bind q) fun rs G1 s1 H1 st1 S1 k vs hv => ⟨G1, rs, s1.w, S1.gh, hv, S1.pw, ?_⟩⟩
  cases z : F rs s1.w with
  | ok r w' =>
    rw [z] at k
    intro v G' H' f pw fr
    obtain ⟨st, S'⟩ := call_stp S1 f pw
    refine k G' H' st S' v ?_
    cases r with
    | val d => exact fr
    | raw u => exact fr
    | ob o => exact fr
    | slot i => exact fr.elim
    | new ds =>
      obtain ⟨a, xs, e, ha, hd, hg, h0, hn⟩ := fr
      refine ⟨a, xs, e, ha, hd, hg, Classical.byContradiction fun z => st1.dom a z h0, fun z => ?_⟩
      rcases z with ⟨i, z⟩ | z
      · obtain ⟨ys, e2⟩ := S1.ownL z
        rw [h0] at e2; cases e2
      · exact hn z
  | err x w' =>
    rw [z] at k
    intro cls d G' H' f pw xr
    obtain ⟨st, S'⟩ := call_stp S1 f pw
    exact k cls d G' H' st S' xr
  | stuck => rw [z] at k; exact k
theorem d_user {F : List R → Pw → FRes} {k : Nat} {f : Addr} {fd : FuncData} {ps : List Str} {x : Str} {p : Pos} (hF : FnG X.prog X.w X.K X.mg X.base (L2.CX X.prog X.w) k f fd ps (spF X.K cl F)) (hr : RoomG k X.A) (hg : Gl X x) (hm : X.mg x = some (.ref f)) (hk : PySem.W.keepIn X.K (.ref f) = true) (hb : Binds X.K fd ps [])
    (hx : ∀ σ, PassesAt (L2.CX X.prog X.w) X σ (WE W σ)) (ha : DAe X cl W (e :: es) fs) (hdb : (x == ("__debug__" : Str)) = false := by decide) (he : starEach (e :: es) X.env = (false, eval e X.env) :: starEach es X.env := by rfl) (hpl : (backTo pos (starEach es X.env)).any (·.1) = false := by rfl) :
    DE X cl W (.Call (.Name x p) (e :: es) [] pos) (fUser F fs) := pe_imp (pe_callG hF hr hg hm hk hb hx ha hdb he hpl) fun σ H Q q => user_reads q
theorem passA0 {X : Cx} (σ : L2.St) : PassesAt (L2.CX X.prog X.w) X σ (WE W0 σ) := fun _ _ _ _ _ _ h => by
  obtain ⟨_, _, _, _, _, _, _, _, _, _, _, _, z⟩ := h
  exact z.elim
end
/-! ### a def -/
def toSl : R → Sl
  | .val d => .val d
  | .raw v => .raw v
  | .ob o => .ob o
  | _ => .no
def finR (r : R) (s : DSt) : Option R := match r with
  | .slot i => match s.d[i]? with
    | some (.own ds) => some (.new ds)
    | some (.val d) => some (.val d)
    | _ => none
  | r => some r
def runF (n nps : Nat) (p : DSt → Flow) : List R → Pw → FRes := fun rs w => if rs.length = nps then match p ⟨rs.map toSl ++ List.replicate (n - nps) .no, w⟩ with
  | .next s => .ok (.val .none) s.w
  | .ret r s => match finR r s with
    | some r' => .ok r' s.w
    | none => .stuck
  | .err x s => .err x s.w
  | _ => .stuck
  else .stuck
section
variable {K : PySem.W.Frag} {cl : String → Addr}
theorem pair_len {G : Hp} : ∀ {vs : List V} {rs : List R}, Paired (AR K G) vs rs → vs.length = rs.length
  | _, _, .nil => rfl
  | _, _, .cons _ t => by simp [pair_len t]
theorem pair_get {G : Hp} : ∀ {vs : List V} {rs : List R} {i : Nat} {r : R}, Paired (AR K G) vs rs → rs[i]? = some r → ∃ v, vs[i]? = some v ∧ AR K G v r
  | _, _, _, _, .nil, e => by simp at e
  | _, _, 0, r, .cons h t, e => by simp at e; subst e; exact ⟨_, rfl, h⟩
  | _, _, i + 1, r, .cons h t, e => by simpa using pair_get (i := i) t (by simpa using e)
theorem start_sa {G H : Hp} {N : List Str} {vs : List V} {rs : List R} {w : Pw} {nps : Nat} (gh : Ex G H) (hv : Paired (AR K G) vs rs) (pw : PwOk G w H) (hn : rs.length = nps) (hN : nps ≤ N.length) : SA K G ⟨rs.map toSl ++ List.replicate (N.length - nps) .no, w⟩ (L2.start N vs) H := by
  have hl := pair_len hv
  have no : ∀ (i : Nat) ds, (rs.map toSl ++ List.replicate (N.length - nps) Sl.no)[i]? ≠ some (.own ds) := by
    intro i ds e
    rw [List.getElem?_append] at e
    split at e
    · rw [List.getElem?_map] at e
      cases q : rs[i]? with
      | none => rw [q] at e; cases e
      | some r => rw [q] at e; cases r <;> cases e
    · rw [List.getElem?_replicate] at e
      split at e <;> cases e
  refine ⟨by simp [L2.start, hl]; omega, gh, fun i sl h => ?_, fun i j a h _ => ?_, fun i a h => ?_, pw, fun i a h => ?_⟩
  · cases sl with
    | no => trivial
    | own ds => exact (no i ds h).elim
    | val d =>
      simp only [List.getElem?_append] at h
      split at h
      · rename_i hi
        rw [List.getElem?_map] at h
        cases q : rs[i]? with
        | none => rw [q] at h; cases h
        | some r =>
          rw [q] at h
          obtain ⟨v, e, ar⟩ := pair_get hv q
          have hi' : i < (vs.map some).length := by simp at hi ⊢; omega
          cases r with
          | val d' =>
            cases h
            refine ⟨v, ?_, ar⟩
            simp only [L2.start, List.getElem?_append, hi', if_true, List.getElem?_map, e]
            rfl
          | raw u => cases h
          | ob u => cases h
          | new u => cases h
          | slot u => cases h
      · rw [List.getElem?_replicate] at h
        split at h <;> cases h
    | ob d =>
      simp only [List.getElem?_append] at h
      split at h
      · rename_i hi
        rw [List.getElem?_map] at h
        cases q : rs[i]? with
        | none => rw [q] at h; cases h
        | some r =>
          rw [q] at h
          obtain ⟨v, e, ar⟩ := pair_get hv q
          have hi' : i < (vs.map some).length := by simp at hi ⊢; omega
          cases r with
          | ob d' =>
            cases h
            refine ⟨v, ?_, ar⟩
            simp only [L2.start, List.getElem?_append, hi', if_true, List.getElem?_map, e]
            rfl
          | raw u => cases h
          | val u => cases h
          | new u => cases h
          | slot u => cases h
      · rw [List.getElem?_replicate] at h
        split at h <;> cases h
    | raw u =>
      simp only [List.getElem?_append] at h
      split at h
      · rename_i hi
        rw [List.getElem?_map] at h
        cases q : rs[i]? with
        | none => rw [q] at h; cases h
        | some r =>
          rw [q] at h
          obtain ⟨v, e, ar⟩ := pair_get hv q
          have hi' : i < (vs.map some).length := by simp at hi ⊢; omega
          cases r with
          | raw u' =>
            cases h
            have ar : v = _ := ar
            subst ar
            show (L2.start N vs)[i]?.join = _
            simp only [L2.start, List.getElem?_append, hi', if_true, List.getElem?_map, e]
            rfl
          | val u => cases h
          | ob u => cases h
          | new u => cases h
          | slot u => cases h
      · rw [List.getElem?_replicate] at h
        split at h <;> cases h
  · obtain ⟨⟨ds, e⟩, _⟩ := h; exact (no i ds e).elim
  · obtain ⟨⟨ds, e⟩, _⟩ := h; exact (no i ds e).elim
  · obtain ⟨⟨ds, e⟩, _⟩ := h; exact (no i ds e).elim
theorem start_own {rs : List R} {n : Nat} {w : Pw} {σ : L2.St} {a : Addr} (h : Own ⟨rs.map toSl ++ List.replicate n .no, w⟩ σ a) : POwn w a := by
  rcases h with ⟨i, ⟨ds, e⟩, _⟩ | h
  · exfalso
    simp only [List.getElem?_append] at e
    split at e
    · rw [List.getElem?_map] at e
      cases q : rs[i]? with
      | none => rw [q] at e; cases e
      | some r => rw [q] at e; cases r <;> cases e
    · rw [List.getElem?_replicate] at e
      split at e <;> cases e
  · exact h
theorem fstp_of {G H G' H' : Hp} {rs : List R} {n : Nat} {w : Pw} {σ σ' : L2.St} {s' : DSt} (st : Stp G ⟨rs.map toSl ++ List.replicate n .no, w⟩ σ H G' s' σ' H') (S' : SA K G' s' σ' H') : FStp G w H G' s'.w H' :=
  ⟨st.ex, S'.gh, fun a o h nw => st.keep a o h fun z => nw (start_own z), fun a z => (st.own a (.inr z)).imp start_own id, st.dom, st.pw⟩
theorem def_ok {P : Program} {w : World} {mg : Str → Option Value} {base : Heap} {x qual : Str} {st : Stmt} {f : Addr} {fd : FuncData} {N ps : List Str} {k : Nat} {p : DSt → Flow} (F : Fun K x qual st f fd) (S : FnScope N ps (defScope st)) (hN : ps.length ≤ N.length)
    (hb : ∀ (cdv : Value) (A : Around) (outer : List Env) (s : Shared) (H : Hp) (E : XK), RoomG k (A.deeper (envOfC qual (defScope st) s.heap.objs.size f cdv)) →
      DSs (cxOf (L2.CX P w) P w K mg base N qual (defScope st) f cdv A outer s H E) cl (fun cls d _ H => E cls d H) (defBody st) p) : FnG P w K mg base (L2.CX P w) (k + 1) f fd ps (spF K cl (runF N.length ps.length p)) := by
  have hlen : ∀ {rs : List R} {w : Pw}, (match runF N.length ps.length p rs w with | .stuck => False | _ => True) → rs.length = ps.length := by
    intro rs w h
    unfold runF at h
    split at h
    · exact h.elim
    · rename_i z
      by_cases q : rs.length = ps.length
      · exact q
      · rw [if_neg q] at z; exact absurd rfl z
  refine okG F S (fun vs H Q E h => ?_) fun cdv A outer s H vs Q E hr h => ⟨_, hb cdv A outer s H E hr, ?_⟩
  · obtain ⟨G, rs, w, gh, hv, pw, k⟩ := h
    rw [pair_len hv]
    refine hlen (w := w) ?_
    cases z : runF N.length ps.length p rs w with
    | ok r w' => trivial
    | err x w' => trivial
    | stuck => rw [z] at k; exact k
  · obtain ⟨G, rs, w, gh, hv, pw, k⟩ := h
    have hn : rs.length = ps.length := by
      refine hlen (w := w) ?_
      cases z : runF N.length ps.length p rs w with
      | ok r w' => trivial
      | err x w' => trivial
      | stuck => rw [z] at k; exact k
    refine ⟨G, ⟨rs.map toSl ++ List.replicate (N.length - ps.length) .no, w⟩, show SA K G _ (L2.start N vs) H from start_sa gh hv pw hn hN, ?_⟩
    unfold runF at k
    rw [if_pos hn] at k
    cases z : p ⟨rs.map toSl ++ List.replicate (N.length - ps.length) .no, w⟩ with
    | next s' => rw [z] at k; exact fun G' σ' H' st S' => k .non G' H' (fstp_of st S') S'.pw .non
    | brk s' => rw [z] at k; exact k.elim
    | cnt s' => rw [z] at k; exact k.elim
    | stuck => rw [z] at k; exact k.elim
    | err x s' => rw [z] at k; exact fun cls d G' σ' H' st S' xr => k cls d G' H' (fstp_of st S') S'.pw xr
    | ret r s' =>
      rw [z] at k
      intro v G' σ' H' st S' rr
      cases r with
      | val d => exact k v G' H' (fstp_of st S') S'.pw rr
      | raw u => exact k v G' H' (fstp_of st S') S'.pw rr
      | ob o => exact k v G' H' (fstp_of st S') S'.pw rr
      | new ds =>
        refine k v G' H' (fstp_of st S') S'.pw ?_
        obtain ⟨a, xs, e, ha, hd, hg, h0, hn⟩ := rr
        exact ⟨a, xs, e, ha, hd, hg, h0, fun z => hn (.inr z)⟩
      | slot i =>
        have rr : σ'[i]? = some (some v) := rr
        dsimp only [finR] at k
        cases q : s'.d[i]? with
        | none => rw [q] at k; exact k.elim
        | some sl =>
          rw [q] at k
          cases sl with
          | no => exact k.elim
          | raw u => exact k.elim
          | ob o => exact k.elim
          | val d =>
            refine k v G' H' (fstp_of st S') S'.pw ?_
            obtain ⟨u, e, hd⟩ := S'.slot i _ q
            rw [rr] at e
            cases e
            exact hd
          | own ds =>
            refine k v G' H' (fstp_of st S') S'.pw ?_
            obtain ⟨a, xs, e, ha, hd⟩ := S'.slot i _ q
            rw [rr] at e
            cases e
            have ho : OwnAt s' σ' i a := ⟨⟨ds, q⟩, rr⟩
            refine ⟨a, xs, rfl, ha, hd, S'.ownG i a ho, ?_, S'.pne i a ho⟩
            rcases st.own a (.inl ⟨i, ho⟩) with z | z
            · have z := start_own z
              exact absurd (st.pw a z) (S'.pne i a ho)
            · exact z
end
end DL

/-! DL11: methods of lists, isinstance, small statements -/
noncomputable section
namespace DL
open PySem L2 PyProof.Rows
open Evl (Ex)
section
variable {K : PySem.W.Frag} {G H : Hp} {s : DSt} {σ : L2.St}
theorem own_write {i : Nat} {ds ds' : List PyData} {a : Addr} {xs' : List V} (S : SA K G s σ H) (h : s.d[i]? = some (.own ds)) (e : σ[i]? = some (some (.ref a))) (hd : RpAll K G xs' ds') :
    Stp G s σ H G (putS i (.own ds') s) σ (upd H a (.lst xs')) ∧ SA K G (putS i (.own ds') s) σ (upd H a (.lst xs')) := by
  have il : i < s.d.length := (List.getElem?_eq_some_iff.mp h).1
  have ho : OwnAt s σ i a := ⟨⟨ds, h⟩, e⟩
  have hg := S.ownG i a ho
  have od : ∀ j b, OwnAt (putS i (.own ds') s) σ j b → OwnAt s σ j b := by
    rintro j b ⟨⟨es, q⟩, z⟩
    by_cases w : j = i
    · subst w; exact ⟨⟨ds, h⟩, z⟩
    · simp only [putS, List.getElem?_set_ne (Ne.symm w)] at q; exact ⟨⟨es, q⟩, z⟩
  have ow : ∀ b, Own (putS i (.own ds') s) σ b → Own s σ b := fun b z => z.imp (fun ⟨j, z⟩ => ⟨j, od j b z⟩) id
  refine ⟨⟨Ex.refl G, fun b o hb nb => ⟨?_, rfl⟩, fun b z => .inl (ow b z), fun b hb => ?_, fun _ z => z⟩, ⟨by simp [putS, S.len], fun b u hb => ?_, fun j sl hj => ?_, fun j k b h1 h2 => S.inj j k b (od j b h1) (od k b h2), fun j b z => S.ownG j b (od j b z), ?_, fun j b z => S.pne j b (od j b z)⟩⟩
  · rw [upd_ne fun z => nb (by subst z; exact .inl ⟨i, ho⟩)]; exact hb
  · by_cases z : b = a
    · subst z; rw [upd_same]; simp
    · rw [upd_ne z]; exact hb
  · rw [upd_ne fun z => by subst z; rw [hg] at hb; cases hb]; exact S.gh b u hb
  · by_cases w : j = i
    · subst w
      simp only [putS, List.getElem?_set_self il] at hj
      cases hj
      exact ⟨a, xs', by rw [e] <;> rfl, upd_same, hd⟩
    · simp only [putS, List.getElem?_set_ne (Ne.symm w)] at hj
      have q := S.slot j sl hj
      cases sl with
      | no => trivial
      | val d => exact q
      | raw v => exact q
      | ob o => exact q
      | own es =>
        obtain ⟨b, ys, e2, hb, hh⟩ := q
        refine ⟨b, ys, e2, ?_, hh⟩
        have e3 : σ[j]? = some (some (.ref b)) := by
          cases z : σ[j]? with
          | none => rw [z] at e2; cases e2
          | some o => rw [z] at e2; simp at e2; rw [e2]
        rw [upd_ne fun z => w (by subst z; exact S.inj j i b ⟨⟨es, hj⟩, e3⟩ ho)]
        exact hb
  · obtain ⟨ys, hy⟩ := S.ownL ho
    exact pwok_to S.pw (fun b o h z => by rw [upd_ne fun q => S.pne i a ho (by subst q; exact z)]; exact h) (fun b φ h => by rw [upd_ne fun q => by subst q; rw [hy] at h; cases h]; exact h) fun b z => G_pown S.pw z
theorem own_at {i : Nat} {ds : List PyData} (S : SA K G s σ H) (h : s.d[i]? = some (.own ds)) : ∃ a xs, σ[i]? = some (some (.ref a)) ∧ H a = some (.lst xs) ∧ RpAll K G xs ds := by
  obtain ⟨a, xs, e, ha, hd⟩ := S.slot i _ h
  refine ⟨a, xs, ?_, ha, hd⟩
  cases z : σ[i]? with
  | none => rw [z] at e; cases e
  | some o => rw [z] at e; simp at e; rw [e]
end
theorem intsAre_vals' : ∀ {ns : List Int} {us : List Value}, Vals (ns.map V.int) us → PyProof.Rows.IntsAre us ns
  | [], _, .nil => .nil
  | n :: ns, _, .cons r t => by
    obtain ⟨k, rfl⟩ := r
    exact .cons n k (intsAre_vals' t)
def isOwn (i : Nat) (s : DSt) : Bool := match s.d[i]? with
  | some (.own _) => true
  | _ => false
def fApp (i : Nat) (f : M R) : M R := fun s => if isOwn i s then bnd f (fun r => bnd (fEsc r) fun r' s' => match r', s'.d[i]? with
    | .val d, some (.own ds) => if ltS (ds.length) then .ok (.val .none) (putS i (.own (ds ++ [d])) s') else .stuck
    | _, _ => .stuck) s
  else .stuck
theorem isOwn_get {i : Nat} {s : DSt} (h : isOwn i s = true) : ∃ ds, s.d[i]? = some (.own ds) := by
  unfold isOwn at h
  split at h
  · exact ⟨_, by assumption⟩
  · cases h
section
variable {X : Cx} {cl : String → Addr} {W : WX} {e a b c : Expr} {es : List Expr} {f g : M R} {fs : M (List R)} {pos : Pos} {p q : DSt → Flow}
theorem d_append {i : Nat} {x : Expr} {ap cp : Pos} (hx : PE X x (tVar i)) (ha : DE X cl W e f) (hbase : attributeBase x "append" X.env (eval x X.env) = eval x X.env := by rfl)
    (hfew : ((backTo cp (starEach [e] X.env)).all (fun x => !x.1) && (backToKw cp (keywordEach [] X.env)).all (fun x => x.1.isSome) && decide (([e] : List Expr).length + ([] : List Keyword).length + (if ([] : List Keyword).isEmpty then 0 else 1) < 30)) = true := by rfl)
    (hline : (ap.endLine == cp.line) = true := by rfl) (hs : starEach [e] X.env = (false, eval e X.env) :: starEach [] X.env := by rfl) (hplain : (backTo cp (starEach [] X.env)).any (·.1) = false := by rfl) :
    DE X cl W (.Call (.Attribute x "append" ap) [e] [] cp) (fApp i f) := by
  refine pe_imp (pe_bm PySem.F.plainAttrs_list PySem.F.slot_list_append PySem.F.type_list_append mt_append hx (pa_cons ha pa_nil hs) hbase hfew hline hs hplain) fun σ H Q ⟨G, s, S, q⟩ => ?_
  unfold fApp at q
  split at q
  rotate_left
  · exact q.elim
  rename_i ho
  obtain ⟨ds0, h0⟩ := isOwn_get ho
  obtain ⟨l, xs0, el, hl0, _⟩ := own_at S h0
  refine ⟨.ref l, el, .inl ⟨rfl, _, .of hl0⟩, G, s, S, ?_⟩
  refine out_mono (out_esc q) fun r G1 s1 H1 st1 S1 k v rr => ?_
  obtain ⟨G2, s2, r2, st2, S2, ar, ex, k2⟩ := k v rr
  split at k2
  · rename_i d ds h2
    split at k2
    · rename_i hz
      obtain ⟨l2, xs, el2, hl2, hd2⟩ := own_at S2 h2
      rw [el] at el2
      cases el2
      obtain ⟨st3, S3⟩ := own_write S2 h2 el (dps_app hd2 (.cons ar .nil))
      exact ⟨l, xs, v, rfl, rfl, hl2, by rw [dps_len hd2]; exact hz, k2 _ _ st3 S3 _ .non⟩
    · exact k2.elim
  · exact k2.elim
def fPop (i : Nat) : M R := fun s => match s.d[i]? with
  | some (.own ds) => match ds[ds.length - 1]? with
    | some d => .ok (.val d) (putS i (.own ds.dropLast) s)
    | none => .stuck
  | _ => .stuck
def fPopAt (i : Nat) (f : M R) : M R := fun s => if isOwn i s then bnd f (fun r s' => match look r s', s'.d[i]? with
    | some (.int k), some (.own ds) => match ixN ds.length k with
      | some j => match ds[j]? with
        | some d => if inW k then .ok (.val d) (putS i (.own (ds.eraseIdx j)) s') else .stuck
        | none => .stuck
      | none => .stuck
    | _, _ => .stuck) s
  else .stuck
def fIns (i : Nat) (fs : M (List R)) : M R := fun s => if isOwn i s then bnd fs (fun rs s' => match rs, s'.d[i]? with
    | [.val (.int k), .val d], some (.own ds) => if 0 ≤ k ∧ inW k ∧ ltS (ds.length) then .ok (.val .none) (putS i (.own (ds.take k.toNat ++ [d] ++ ds.drop k.toNat)) s') else .stuck
    | _, _ => .stuck) s
  else .stuck
theorem d_insert {i : Nat} {x : Expr} {ap cp : Pos} (hx : PE X x (tVar i)) (ha : DAe X cl W (a :: [b]) fs) (hbase : attributeBase x "insert" X.env (eval x X.env) = eval x X.env := by rfl)
    (hfew : ((backTo cp (starEach [a, b] X.env)).all (fun x => !x.1) && (backToKw cp (keywordEach [] X.env)).all (fun x => x.1.isSome) && decide (([a, b] : List Expr).length + ([] : List Keyword).length + (if ([] : List Keyword).isEmpty then 0 else 1) < 30)) = true := by rfl)
    (hline : (ap.endLine == cp.line) = true := by rfl) (hs : starEach [a, b] X.env = (false, eval a X.env) :: starEach [b] X.env := by rfl) (hplain : (backTo cp (starEach [b] X.env)).any (·.1) = false := by rfl) :
    DE X cl W (.Call (.Attribute x "insert" ap) [a, b] [] cp) (fIns i fs) := by
  refine pe_imp (pe_bm PySem.F.plainAttrs_list PySem.F.slot_list_insert PySem.F.type_list_insert mt_insert hx ha hbase hfew hline hs hplain) fun σ H Q ⟨G, s, S, q⟩ => ?_
  unfold fIns at q
  split at q
  rotate_left
  · exact q.elim
  rename_i ho
  obtain ⟨ds0, h0⟩ := isOwn_get ho
  obtain ⟨l, xs0, el, hl0, _⟩ := own_at S h0
  refine ⟨.ref l, el, .inl ⟨rfl, _, .of hl0⟩, G, s, S, ?_⟩
  refine out_mono (out_bind q) fun rs G1 s1 H1 st1 S1 k vs hv => ?_
  split at k
  · rename_i n d ds h1
    split at k
    · rename_i hb
      cases hv with
      | cons r1 r2 =>
        cases r2 with
        | cons r2 r3 =>
          cases r3
          cases (show Rp X.K G1 _ (.int n) from r1)
          obtain ⟨l2, xs, el2, hl2, hd2⟩ := own_at S1 h1
          rw [el] at el2
          cases el2
          obtain ⟨st3, S3⟩ := own_write S1 h1 el (dps_app (dps_app (dps_take n.toNat hd2) (.cons r2 .nil)) (dps_drop n.toNat hd2))
          exact ⟨l, xs, n, _, rfl, rfl, hl2, by rw [dps_len hd2]; exact hb.2.2, hb.1, hb.2.1.2, k _ _ st3 S3 _ .non⟩
    · exact k.elim
  · exact k.elim
def fRem (i : Nat) (f : M R) : M R := fun s => if isOwn i s then bnd f (fun r s' => match look r s', s'.d[i]? with
    | some (.int k), some (.own ds) => match intsD ds with
      | some ns => match ns.findIdx? (· == k) with
        | some j => .ok (.val .none) (putS i (.own ((ns.eraseIdx j).map .int)) s')
        | none => .stuck
      | none => .stuck
    | _, _ => .stuck) s
  else .stuck
def fClear (i : Nat) : M R := fun s => match s.d[i]? with
  | some (.own ds) => .ok (.val .none) (putS i (.own []) s)
  | _ => .stuck
def flatD : PyData → Bool
  | .none | .bool _ | .int _ | .str _ => true
  | _ => false
def idxO (ds : List PyData) (d : PyData) : Option Nat := if ds.all flatD && flatD d then ds.findIdx? (fun z => PyData.eqv z d) else none
def isLst (x : R) (s : DSt) : Bool := match look x s with
  | some (.list _) => true
  | _ => false
def fIndex (g f : M R) : M R := bnd g fun x s => if isLst x s then bnd f (fun r s => match look x s, look r s with
  | some (.list ds), some d => match idxO ds d with
    | some j => .ok (.val (.int (j : Nat))) s
    | none => .stuck
  | _, _ => .stuck) s
  else .stuck
def tyN : PyData → String
  | .none => "NoneType" | .bool _ => "bool" | .int _ => "int" | .str _ => "str" | .list _ => "list" | .tuple _ => "tuple" | .dict _ => "dict"
theorem ty_of {K : PySem.W.Frag} {G H : Hp} {v : V} {d : PyData} (x : Ex G H) (h : Dq K G H v d) : TyX K H v (.type (tyN d)) := by
  cases d with
  | none => cases (show Rp K G v .none from h); exact .base .non
  | bool b => obtain rfl := dq_bl h; exact .base (.bl b)
  | int b => obtain rfl := dq_int h; exact .base (.int b)
  | str b => obtain rfl := dq_str h; exact .base (.str b)
  | list ds => obtain ⟨p, xs, rfl, hp, _⟩ := dq_lst h; exact .base (.lst hp)
  | tuple ds =>
    obtain ⟨p, xs, rfl, hp, _⟩ := dq_tup x h
    rcases hp with (hp | ⟨o, hp⟩) | ⟨o, its, n, hk, hc, _⟩
    · exact .base (.tup hp)
    · exact .fTuple hp
    · exact .kTuple hk hc
  | dict kvs => cases (show Rp K G v (.dict kvs) from h)
def isN (n a : String) : Bool := n == a || (n == "int" && a == "bool")
def isT (n : String) (d : PyData) : Bool := isN n (tyN d)
def knownT (n : String) : Bool := ["int", "bool", "str", "list", "tuple"].contains n
theorem kit_tab : ∀ n ∈ ["int", "bool", "str", "list", "tuple"], ∀ a ∈ ["NoneType", "bool", "int", "str", "list", "tuple", "dict"], kitB a n = some (isN n a) := by decide +kernel
theorem kit_is {n : String} {d : PyData} (hn : knownT n = true) : kitB (tyN d) n = some (isT n d) :=
  kit_tab n (by simpa [knownT] using hn) _ (by cases d <;> simp [tyN])
def fIsi (n : String) (f : M R) : M R := bnd f fun r s => match look r s with
  | some d => .ok (.val (.bool (isT n d))) s
  | none => .stuck
theorem d_isi {n : Str} {m : String} {p p2 pos : Pos} (hn : knownT m = true) (hg : Gl X "isinstance") (hm : X.mg "isinstance" = none) (ha : DE X cl W e f) (hc : PE X (.Name n p2) (tC (.ty m)))
    (he : starEach (e :: [.Name n p2]) X.env = (false, eval e X.env) :: starEach [.Name n p2] X.env := by rfl) (he2 : starEach [.Name n p2] X.env = (false, eval (.Name n p2) X.env) :: starEach [] X.env := by rfl) (hpl : (backTo pos (starEach [.Name n p2] X.env)).any (·.1) = false := by rfl) :
    DE X cl W (.Call (.Name "isinstance" p) [e, .Name n p2] [] pos) (fIsi m f) := by
  refine pe_imp (pe_callB call_isi hg hm (by decide +kernel) (pa_cons ha (pa_cons hc pa_nil he2) he) (by decide) (by decide) he hpl) fun σ H Q ⟨G, s, S, q⟩ => ?_
  refine ⟨G, s, S, out_mono (out_bind q) fun x G1 s1 H1 st1 S1 k v rr => ?_⟩
  split at k
  · rename_i d e
    exact ⟨v, .ty m, .type (tyN d), .type m, isT m d, rfl, .ty m, ty_of S1.gh (look_q S1 rr e), kit_ty (kit_is hn), k G1 H1 Stp.refl S1 _ (.bl _)⟩
  · exact k.elim
def nubI (ns : List Int) : List Int := PyProof.Rows.firstMet (fun i => ns.getD i 0) ns.length
def fLenSet (f : M R) : M R := bnd f fun r s => match look r s with
  | some (.list ds) => match intsD ds with
    | some ns => if ns.length ≤ 4000 then .ok (.val (.int (nubI ns).length)) s else .stuck
    | none => .stuck
  | _ => .stuck
theorem d_lenSet {p p2 q pos : Pos} (hcalm : X.calm = true) (hg : Gl X "len") (hm : X.mg "len" = none) (hg2 : Gl X "set") (hm2 : X.mg "set" = none) (ha : DE X cl W a f)
    (na : starEach [a] X.env = (false, eval a X.env) :: starEach [] X.env := by rfl) : DE X cl W (.Call (.Name "len" p) [.Call (.Name "set" p2) [a] [] q] [] pos) (fLenSet f) := by
  refine ⟨fun pins s σ H Q I ⟨G, st, S, h⟩ => ?_⟩
  have hc : X.A.handled = none := I.ok.hd hcalm
  refine Call_ (ld_blt I hg hm boot_len ?_)
  refine PyProof.Rows.callWith_builtin1 (PyProof.Rows.args_cons ?_ rfl) rfl rfl
  refine Call_ (ld_blt I hg2 hm2 boot_set ?_)
  have h1 : tD X.K cl W f σ H fun v H1 => ∃ (l : Addr) (ns : List Int), v = .ref l ∧ SqL X.K H1 l (ns.map V.int) ∧ ns.length ≤ 4000 ∧ Q (.int (nubI ns).length) H1 := by
    refine ⟨G, st, S, out_mono (out_bind h) fun x G1 s1 H1 st1 S1 k v rr => ?_⟩
    split at k
    · rename_i ds e1
      split at k
      · rename_i ns en
        split at k
        · rename_i hl
          obtain ⟨l, xs, rfl, hp, hd⟩ := dq_lst (look_q S1 rr e1)
          have ex := ints_rp hd en
          subst ex
          exact ⟨l, ns, rfl, .of hp, hl, k G1 H1 Stp.refl S1 _ (.int _)⟩
        · exact k.elim
      · exact k.elim
    · exact k.elim
  refine PyProof.Rows.callWith_type1 (PyProof.Rows.args_cons (thn (ha.run pins s σ H _ I h1) fun v s1 ⟨x, H1, I1, r1, q1⟩ => PyProof.Rows.args_nil ?_) na) na rfl
  obtain ⟨l, ns, rfl, hq, hl, q1⟩ := q1
  cases r1
  obtain ⟨its, r, pl, hz⟩ := I1.list hq
  have hlen : its.toArray.size = ns.length := by rw [List.size_toArray, ← r.length, List.length_map]
  refine call_set_list hc pl.isList (by simpa using intsAre_vals' r) (by rw [hlen]; unfold scanBound; omega) fun h' tk hS hk => ?_
  refine PyProof.Rows.args_nil ?_
  rw [hlen] at hS
  obtain ⟨o, es, ep, t, ho, hex, hd, _, _, _, hf, hn⟩ := hS
  have I2 : Inv X pins σ H1 { s1 with heap := h', toks := tk } := I1.kept fun b o e => hk b o (Heap.lt_size e) e
  have hnl : (nubI ns).length ≤ ns.length := PyProof.Rows.firstMet_length_le _ _
  exact call_len_set ho hex hd hf (by rw [hn]; unfold nubI at hnl; omega) ⟨.int (nubI ns).length, H1, I2.tok _, ⟨_, by rw [hn] <;> rfl⟩, q1⟩
end
end DL

/-! DL12: more statements; a def by its name -/
noncomputable section
namespace DL
open PySem L2 PyProof.Rows
open Evl (Ex)
def Cal (P : Program) (w : World) (K : PySem.W.Frag) (mg : Str → Option Value) (base : Heap) (cl : String → Addr) (x : Str) (k : Nat) (ps : List Str) (F : List R → Pw → FRes) : Prop :=
  ∃ (f : Addr) (fd : FuncData), FnG P w K mg base (L2.CX P w) k f fd ps (spF K cl F) ∧ mg x = some (.ref f) ∧ PySem.W.keepIn K (.ref f) = true ∧ Binds K fd ps []
def Wr (K : PySem.W.Frag) (mg : Str → Option Value) (x : Str) (st : Stmt) (ps : List Str) : Prop := ∃ (f : Addr) (fd : FuncData), Fun K x x st f fd ∧ mg x = some (.ref f) ∧ Binds K fd ps []
theorem cal_of {P : Program} {w : World} {K : PySem.W.Frag} {mg : Str → Option Value} {base : Heap} {cl : String → Addr} {x : Str} {k : Nat} {N ps : List Str} {st : Stmt} {p : DSt → Flow} (h : Wr K mg x st ps) (S : FnScope N ps (defScope st)) (hN : ps.length ≤ N.length)
    (hb : ∀ (f : Addr) (cdv : Value) (A : Around) (outer : List Env) (s : Shared) (H : Hp) (E : XK), RoomG k (A.deeper (envOfC x (defScope st) s.heap.objs.size f cdv)) →
      DSs (cxOf (L2.CX P w) P w K mg base N x (defScope st) f cdv A outer s H E) cl (fun cls d _ H => E cls d H) (defBody st) p) : Cal P w K mg base cl x (k + 1) ps (runF N.length ps.length p) := by
  obtain ⟨f, fd, F, g, b⟩ := h
  exact ⟨f, fd, def_ok F S hN fun cdv A outer s H E hr => hb f cdv A outer s H E hr, g, F.kp, b⟩
section
variable {X : Cx} {cl : String → Addr} {W : WX} {e a b c : Expr} {es : List Expr} {f g : M R} {fs : M (List R)} {pos : Pos} {p q : DSt → Flow}
theorem d_cal {F : List R → Pw → FRes} {k : Nat} {ps : List Str} {x : Str} {p : Pos} (h : Cal X.prog X.w X.K X.mg X.base cl x k ps F) (hr : RoomG k X.A) (hx : ∀ σ, PassesAt (L2.CX X.prog X.w) X σ (WE W σ)) (ha : DAe X cl W (e :: es) fs) (hg : Gl X x := by rfl) (hdb : (x == ("__debug__" : Str)) = false := by decide)
    (he : starEach (e :: es) X.env = (false, eval e X.env) :: starEach es X.env := by rfl) (hpl : (backTo pos (starEach es X.env)).any (·.1) = false := by rfl) : DE X cl W (.Call (.Name x p) (e :: es) [] pos) (fUser F fs) := by
  obtain ⟨f, fd, ok, g, kp, b⟩ := h
  exact d_user ok hr hg g kp b hx ha hdb he hpl
def fAug (i : Nat) (o : Int → Int → Int) (f : M R) : DSt → Flow := fun s => match s.d[i]? with
  | some (.val (.int a)) => onRes (f s) fun r s' => match look r s' with
    | some (.int b) => if i < s'.d.length then .next (putS i (.val (.int (o a b))) s') else .stuck
    | _ => .stuck
  | _ => .stuck
def fSetIx (i : Nat) (f g : M R) : DSt → Flow := fun s => onRes (bnd f fEsc s) fun r s1 => if isOwn i s1 then onRes (g s1) fun k s2 => match r, look k s2, s2.d[i]? with
    | .val d, some (.int n), some (.own ds) => match ixN ds.length n with
      | some j => .next (putS i (.own (ds.set j d)) s2)
      | none => .stuck
    | _, _, _ => .stuck
  else .stuck
def fPar (i j : Nat) (fs : M (List R)) : DSt → Flow := fun s => onRes (fs s) fun rs s' => match rs with
  | [r1, r2] => if i < s'.d.length ∧ j < s'.d.length then .next (putS j (toSl r2) (putS i (toSl r1) s')) else .stuck
  | _ => .stuck
def bSeq (n : Nat) (bs : Bds) : Bd := fun d s => match d with
  | .tuple ds => if ds.length = n then bs ds s else none
  | .list ds => if ds.length = n then bs ds s else none
  | _ => none
end
end DL

/-! DL13: the purse: a list of a list of ints and an int, changed by the def that draws -/
noncomputable section
namespace DL
open PySem L2 PyProof.Rows
open Evl (Ex)
section
variable {K : PySem.W.Frag} {G H : Hp} {s : DSt} {σ : L2.St} {pa ca : Addr} {cells : List Int} {t : Int}
theorem pwA_ne (h : pa ≠ ca) : pwA pa ca cells t = [.ref ca, .int t] := if_neg h
theorem pwA_eq : pwA ca ca cells t = cells.map .int := if_pos rfl
theorem pw_get (S : SA K G s σ H) (e : s.w = some (pa, ca, cells, t)) : True ∧ H pa = some (.lst (pwA pa ca cells t)) ∧ H ca = some (.lst (cells.map .int)) ∧ G pa = none ∧ G ca = none := by
  have q := S.pw.1
  unfold PwOk0 at q
  rw [e] at q
  exact q
theorem pw_write {H' : Hp} {cells' : List Int} {t' : Int} (S : SA K G s σ H) (e : s.w = some (pa, ca, cells, t)) (h : ∀ a, a ≠ pa → a ≠ ca → H' a = H a) (h1 : H' pa = some (.lst (pwA pa ca cells' t'))) (h2 : H' ca = some (.lst (cells'.map .int))) :
    Stp G s σ H G { s with w := some (pa, ca, cells', t') } σ H' ∧ SA K G { s with w := some (pa, ca, cells', t') } σ H' := by
  obtain ⟨q1, q2, q3, q4, q5⟩ := pw_get S e
  have po : ∀ a, POwn s.w a ↔ ((a = pa ∨ a = ca) ∨ TOwn a) := fun a => by unfold POwn POwn0; rw [e] <;> exact Iff.rfl
  have tp : ∀ a, TOwn a → a ≠ pa ∧ a ≠ ca := fun a z => by
    obtain ⟨ps, hp⟩ := S.pw.2.h z
    exact ⟨fun q => (by subst q; rw [q2] at hp; cases hp), fun q => (by subst q; rw [q3] at hp; cases hp)⟩
  have np : ∀ i a, OwnAt s σ i a → a ≠ pa ∧ a ≠ ca := fun i a z => ⟨fun w => S.pne i a z ((po a).mpr (.inl (.inl w))), fun w => S.pne i a z ((po a).mpr (.inl (.inr w)))⟩
  refine ⟨⟨Ex.refl G, fun a o hb nb => ⟨?_, rfl⟩, fun a z => .inl ?_, fun a hb => ?_, fun a z => ?_⟩, ⟨S.len, fun a u hb => ?_, fun i sl hi => ?_, S.inj, S.ownG, ⟨⟨trivial, h1, h2, q4, q5⟩, S.pw.2.to (fun a o hb z => by rw [h a (tp a z).1 (tp a z).2]; exact hb) (fun a φ hb => by rw [h a (fun q => (by subst q; rw [q2] at hb; cases hb)) (fun q => (by subst q; rw [q3] at hb; cases hb))]; exact hb) fun a z => S.pw.2.g z⟩, fun i a z w => ?_⟩⟩
  · rw [h a (fun z => nb (.inr ((po a).mpr (.inl (.inl z))))) (fun z => nb (.inr ((po a).mpr (.inl (.inr z)))))]; exact hb
  · rcases z with z | z
    · exact .inl z
    · exact .inr ((po a).mpr z)
  · by_cases z : a = pa
    · subst z; rw [h1]; simp
    · by_cases z2 : a = ca
      · subst z2; rw [h2]; simp
      · rw [h a z z2]; exact hb
  · exact (po a).mp z
  · rw [h a (fun z => by subst z; rw [q4] at hb; cases hb) (fun z => by subst z; rw [q5] at hb; cases hb)]
    exact S.gh a u hb
  · have q := S.slot i sl hi
    cases sl with
    | no => trivial
    | val d => exact q
    | raw v => exact q
    | ob o => exact q
    | own es =>
      obtain ⟨a, xs, e1, ha, hh⟩ := q
      have e2 : σ[i]? = some (some (.ref a)) := by
        cases z : σ[i]? with
        | none => rw [z] at e1; cases e1
        | some o => rw [z] at e1; simp at e1; rw [e1]
      obtain ⟨n1, n2⟩ := np i a ⟨⟨es, hi⟩, e2⟩
      exact ⟨a, xs, e1, by rw [h a n1 n2]; exact ha, hh⟩
  · obtain ⟨n1, n2⟩ := np i a z
    rcases w with w | w
    · exact w.elim n1 n2
    · exact S.pne i a z ((po a).mpr (.inr w))
theorem raw_at {i : Nat} {v : V} (S : SA K G s σ H) (h : s.d[i]? = some (.raw v)) : σ[i]? = some (some v) := by
  have e : σ[i]?.join = some v := S.slot i _ h
  cases z : σ[i]? with
  | none => rw [z] at e; cases e
  | some o => rw [z] at e; simp at e; rw [e]
end
section
variable {X : Cx} {cl : String → Addr} {W : WX} {e a b c : Expr} {es : List Expr} {f g : M R} {fs : M (List R)} {pos : Pos} {p q : DSt → Flow}
def fUnP (i j k : Nat) : DSt → Flow := fun s => match s.d[i]?, s.w with
  | some (.raw (.ref p)), some (pa, ca, cells, t) => if p = pa ∧ pa ≠ ca ∧ j < s.d.length ∧ k < s.d.length then .next (putS k (.val (.int t)) (putS j (.raw (.ref ca)) s)) else .stuck
  | _, _ => .stuck
def fLenC (i : Nat) : M R := fun s => match s.d[i]?, s.w with
  | some (.raw (.ref c)), some (pa, ca, cells, t) => if c = ca then .ok (.val (.int cells.length)) s else .stuck
  | _, _ => .stuck
def fIxC (i : Nat) (f : M R) : M R := fun s => match s.d[i]? with
  | some (.raw (.ref c)) => bnd f (fun r s' => match s'.w, look r s' with
    | some (pa, ca, cells, t), some (.int n) => if c = ca then match atI cells n with
      | some z => .ok (.val (.int z)) s'
      | none => .stuck
      else .stuck
    | _, _ => .stuck) s
  | _ => .stuck
theorem atI_map {ns : List Int} {n z : Int} (h : atI ns n = some z) : atI (ns.map V.int) n = some (V.int z) := by
  unfold atI at h ⊢
  rw [List.length_map]
  cases q : ixN ns.length n with
  | none => rw [q] at h; cases h
  | some j =>
    rw [q] at h
    have h : ns[j]? = some z := h
    show (ns.map V.int)[j]? = _
    rw [List.getElem?_map, h]
    rfl
theorem d_ixC {i : Nat} {x : Expr} (hx : PE X x (tVar i)) (ha : DE X cl W e f) (hs : PlainIx e) : DE X cl W (.Subscript x e pos) (fIxC i f) := by
  refine pe_imp (pe_ix ix_seq hx ha hs) fun σ H Q ⟨G, s, S, q⟩ => ?_
  unfold fIxC at q
  split at q
  · rename_i c e1
    refine ⟨_, raw_at S e1, G, s, S, out_mono (out_bind q) fun r G1 s1 H1 st1 S1 k v rr => ?_⟩
    split at k
    · rename_i pa ca cells t n e2 e3
      split at k
      · rename_i hh
        subst hh
        split at k
        · rename_i z ez
          obtain rfl := dq_int (look_q S1 rr e3)
          obtain ⟨q1, q2, q3, q4, q5⟩ := pw_get S1 e2
          exact .inl ⟨c, _, n, _, rfl, rfl, .of q3, atI_map ez, k G1 H1 Stp.refl S1 _ (.int z)⟩
        · exact k.elim
      · exact k.elim
    · exact k.elim
  · exact q.elim
def fSetT (i : Nat) (f : M R) : DSt → Flow := fun s => onRes (f s) fun r s' => match s'.d[i]?, s'.w, look r s' with
  | some (.raw (.ref p)), some (pa, ca, cells, t), some (.int n) => if p = pa ∧ pa ≠ ca then .next { s' with w := some (pa, ca, cells, n) } else .stuck
  | _, _, _ => .stuck
def fSetC (i : Nat) (f g : M R) : DSt → Flow := fun s => onRes (f s) fun r s1 => match s1.d[i]? with
  | some (.raw (.ref c)) => onRes (g s1) fun k s2 => match s2.w, look r s1, look k s2 with
    | some (pa, ca, cells, t), some (.int z), some (.int n) => if c = ca then match ixN cells.length n with
      | some j => .next { s2 with w := some (pa, ca, cells.set j z, t) }
      | none => .stuck
      else .stuck
    | _, _, _ => .stuck
  | _ => .stuck
theorem s_setC {i : Nat} {x k : Expr} {p' : Pos} (he : DE X cl W e f) (hx : PE X x (tVar i)) (hk : DE X cl W k g)
    (ha : ∀ v, assign (.Subscript x k p') X.env v = (do
      let ov ← holding [v] (eval x X.env)
      let iv ← holding [v, ov] (eval k X.env)
      standAt p'
      holding [v, ov, iv] (setItem ov iv v)
      release [v, ov, iv] []) := by intro _; rfl)
    (hs : swapsWithSole [.Subscript x k p'] e pos.line X.env = pure false := by rfl) (hw : swappedStores [.Subscript x k p'] e X.env = pure none := by rfl) (h1 : (assignEach [.Subscript x k p'] X.env).map (·.2) = [assign (.Subscript x k p') X.env] := by rfl) :
    DS X cl W (.Assign [.Subscript x k p'] e pos) (fSetC i f g) := by
  refine ps_imp (ps_asg he (pg_sub hx hk set_list ha) hs hw h1) fun D σ H ⟨G, s, S, h⟩ => ⟨G, s, S, ?_⟩
  refine out_mono (fout_res h) fun r G1 s1 H1 st1 S1 k v rr => ?_
  split at k
  · rename_i c e1
    refine ⟨_, raw_at S1 e1, G1, s1, S1, ?_⟩
    have k3 := fout_shift st1 k
    refine out_mono (fout_res k3) fun kk G3 s3 H3 st3 S3 k4 u ru => ?_
    split at k4
    · rename_i pa ca cells t z n e2 e3 e4
      split at k4
      · rename_i hh
        subst hh
        split at k4
        · rename_i j ej
          obtain ⟨q1, q2, q3, q4, q5⟩ := pw_get S3 e2
          obtain rfl := dq_int (look_q S1 rr e3)
          obtain rfl := dq_int (look_q S3 ru e4)
          obtain ⟨st4, S4⟩ := pw_write (H' := upd H3 c (.lst ((cells.map V.int).set j (.int z)))) (cells' := cells.set j z) (t' := t) S3 e2 (fun a n1 n2 => upd_ne n2) (by
            by_cases z : pa = c
            · rw [z, upd_same, pwA_eq, List.map_set]
            · rw [upd_ne z, pwA_ne z]; rw [pwA_ne z] at q2; exact q2) (by rw [upd_same, List.map_set])
          exact ⟨c, _, n, j, rfl, rfl, q3, by rw [List.length_map]; exact ej, k4 _ σ _ (st3.trans st4) S4⟩
        · exact k4.elim
      · exact k4.elim
    · exact k4.elim
  · exact k.elim
end
end DL

/-! DL14: the purse made; a law -/
noncomputable section
namespace DL
open PySem L2 PyProof.Rows
open Evl (Ex)
def spPurse (K : PySem.W.Frag) : Sp := fun vs H Q _ => ∃ (a : Addr) (ns : List Int), vs = [.ref a] ∧ SqL K H a (ns.map V.int) ∧ ns.length ≤ 63 ∧ TabOk (fun _ => none) H ∧
  ∀ (pa ca : Addr) (cells : List Int) (H' : Hp), pa ≠ ca → H pa = none → H ca = none → TabOk (fun _ => none) H' → H' pa = some (.lst [.ref ca, .int 0]) → H' ca = some (.lst (cells.map V.int)) → cells ≠ [] → cells.length ≤ 63 → Q (.ref pa) H'
def spLaw (K : PySem.W.Frag) : Sp := fun vs H Q _ => ∃ (a : Addr) (ns : List Int), vs = [.ref a] ∧ SqL K H a (ns.map V.int) ∧ ns.length ≤ 63 ∧ TabOk (fun _ => none) H ∧ ∀ H', Q (.bl true) H'
section
variable {P : Program} {w : World} {K : PySem.W.Frag} {mg : Str → Option Value} {base : Heap} {cl : String → Addr}
def CalS (P : Program) (w : World) (K : PySem.W.Frag) (mg : Str → Option Value) (base : Heap) (x : Str) (k : Nat) (ps : List Str) (sp : Sp) : Prop :=
  ∃ (f : Addr) (fd : FuncData), FnG P w K mg base (L2.CX P w) k f fd ps sp ∧ mg x = some (.ref f) ∧ PySem.W.keepIn K (.ref f) = true ∧ Binds K fd ps []
end
end DL

/-! DL15: reckoning on data: what each piece does, as rows for simp -/
noncomputable section
namespace DL
open PySem L2
def andThen (x : Flow) (q : DSt → Flow) : Flow := match x with
  | .next s => q s
  | x => x
theorem inB_of {j : Int} (h1 : -1000000000 ≤ j) (h2 : j ≤ 1000000000) : inB j := ⟨by omega, by omega⟩
@[simp] theorem inB_lit {k : Nat} (h : k ≤ 1000000000) : inB (no_index (OfNat.ofNat k)) := ⟨by
  show -(2 ^ 62) ≤ (k : Int)
  omega, by
  show (k : Int) < 2 ^ 62
  omega⟩
@[simp] theorem inW_lit {k : Nat} (h : k ≤ 1000000000) : inW (no_index (OfNat.ofNat k)) := ⟨by
  show -(2 ^ 63) ≤ (k : Int)
  omega, by
  show (k : Int) < 2 ^ 63
  omega⟩
@[simp] theorem size_le {n : Nat} (h : n ≤ 100000) : leS n := Nat.le_trans h (by decide)
@[simp] theorem size_lt {n : Nat} (h : n ≤ 100000) : ltS n := Nat.lt_of_le_of_lt h (by decide)
@[simp] theorem at_next {s : DSt} {q : DSt → Flow} : andThen (.next s) q = q s := Eq.trans rfl rfl
@[simp] theorem at_ret {r : R} {s : DSt} {q : DSt → Flow} : andThen (.ret r s) q = .ret r s := Eq.trans rfl rfl
@[simp] theorem at_brk {s : DSt} {q : DSt → Flow} : andThen (.brk s) q = .brk s := Eq.trans rfl rfl
@[simp] theorem at_cnt {s : DSt} {q : DSt → Flow} : andThen (.cnt s) q = .cnt s := Eq.trans rfl rfl
@[simp] theorem at_err {z : Exn} {s : DSt} {q : DSt → Flow} : andThen (.err z s) q = .err z s := Eq.trans rfl rfl
@[simp] theorem at_stuck {q : DSt → Flow} : andThen .stuck q = .stuck := Eq.trans rfl rfl
def onF (x : FRes) (s : DSt) : Res R := match x with
  | .ok r w => .ok r ⟨s.d, w⟩
  | .err z w => .err z ⟨s.d, w⟩
  | .stuck => .stuck
@[simp] theorem onF_ok {r : R} {w : Pw} {s : DSt} : onF (.ok r w) s = .ok r ⟨s.d, w⟩ := Eq.trans rfl rfl
@[simp] theorem onF_err {r : Exn} {w : Pw} {s : DSt} : onF (.err r w) s = .err r ⟨s.d, w⟩ := Eq.trans rfl rfl
def finF (x : Flow) : FRes := match x with
  | .next s => .ok (.val .none) s.w
  | .ret r s => (match finR r s with | some r' => .ok r' s.w | none => .stuck)
  | .err z s => .err z s.w
  | _ => .stuck
@[simp] theorem finF_next {s : DSt} : finF (.next s) = .ok (.val .none) s.w := Eq.trans rfl rfl
@[simp] theorem finF_ret {r : R} {s : DSt} : finF (.ret r s) = (match finR r s with | some r' => .ok r' s.w | none => .stuck) := Eq.trans rfl rfl
@[simp] theorem finF_err {r : Exn} {s : DSt} : finF (.err r s) = .err r s.w := Eq.trans rfl rfl
/-! continuations by name: simp does not run ahead into them -/
def kOp (o : R → R → M R) (g : M R) (x : R) (s : DSt) : Res R := (g s).bind (o x)
@[simp] theorem y_kOp (o : R → R → M R) (g : M R) (x : R) (s : DSt) : kOp o g x s = ((g s).bind (o x)) := Eq.trans rfl rfl
def kB  (r : R) (s : DSt) : Res Bool := match look r s with | some (.bool b) => .ok b s | _ => .stuck
@[simp] theorem y_kB  (r : R) (s : DSt) : kB  r s = (match look r s with | some (.bool b) => .ok b s | _ => .stuck) := Eq.trans rfl rfl
def kAnd (u : M Bool) (b : Bool) (s : DSt) : Res Bool := if b = true then u s else .ok false s
@[simp] theorem y_kAnd (u : M Bool) (b : Bool) (s : DSt) : kAnd u b s = (if b = true then u s else .ok false s) := Eq.trans rfl rfl
def kOr (u : M Bool) (b : Bool) (s : DSt) : Res Bool := if b = true then .ok true s else u s
@[simp] theorem y_kOr (u : M Bool) (b : Bool) (s : DSt) : kOr u b s = (if b = true then .ok true s else u s) := Eq.trans rfl rfl
def kNot  (b : Bool) (s : DSt) : Res Bool := .ok (!b) s
@[simp] theorem y_kNot  (b : Bool) (s : DSt) : kNot  b s = (.ok (!b) s) := Eq.trans rfl rfl
def kV  (b : Bool) (s : DSt) : Res R := .ok (.val (.bool b)) s
@[simp] theorem y_kV  (b : Bool) (s : DSt) : kV  b s = (.ok (.val (.bool b)) s) := Eq.trans rfl rfl
def kAndV (g : M R) (b : Bool) (s : DSt) : Res R := if b = true then g s else .ok (.val (.bool false)) s
@[simp] theorem y_kAndV (g : M R) (b : Bool) (s : DSt) : kAndV g b s = (if b = true then g s else .ok (.val (.bool false)) s) := Eq.trans rfl rfl
def kOrV (g : M R) (b : Bool) (s : DSt) : Res R := if b = true then .ok (.val (.bool true)) s else g s
@[simp] theorem y_kOrV (g : M R) (b : Bool) (s : DSt) : kOrV g b s = (if b = true then .ok (.val (.bool true)) s else g s) := Eq.trans rfl rfl
def kIf (f g : M R) (b : Bool) (s : DSt) : Res R := if b = true then f s else g s
@[simp] theorem y_kIf (f g : M R) (b : Bool) (s : DSt) : kIf f g b s = (if b = true then f s else g s) := Eq.trans rfl rfl
def kCons3 (r : R) (rs : List R) (s : DSt) : Res (List R) := .ok (r :: rs) s
@[simp] theorem y_kCons3 (r : R) (rs : List R) (s : DSt) : kCons3 r rs s = (.ok (r :: rs) s) := Eq.trans rfl rfl
def kCons2 (fs : M (List R)) (r : R) (s : DSt) : Res (List R) := (fs s).bind (kCons3 r)
@[simp] theorem y_kCons2 (fs : M (List R)) (r : R) (s : DSt) : kCons2 fs r s = ((fs s).bind (kCons3 r)) := Eq.trans rfl rfl
def kCons (fs : M (List R)) (r : R) (s : DSt) : Res (List R) := (fEsc r s).bind (kCons2 fs)
@[simp] theorem y_kCons (fs : M (List R)) (r : R) (s : DSt) : kCons fs r s = ((fEsc r s).bind (kCons2 fs)) := Eq.trans rfl rfl
def kLst  (rs : List R) (s : DSt) : Res R := match datas rs with | some ds => if leS ds.length then .ok (.new ds) s else .stuck | none => .stuck
@[simp] theorem y_kLst  (rs : List R) (s : DSt) : kLst  rs s = (match datas rs with | some ds => if leS ds.length then .ok (.new ds) s else .stuck | none => .stuck) := Eq.trans rfl rfl
def kTup  (rs : List R) (s : DSt) : Res R := match datas rs with | some ds => if leS ds.length then .ok (.val (.tuple ds)) s else .stuck | none => .stuck
@[simp] theorem y_kTup  (rs : List R) (s : DSt) : kTup  rs s = (match datas rs with | some ds => if leS ds.length then .ok (.val (.tuple ds)) s else .stuck | none => .stuck) := Eq.trans rfl rfl
def kPart  (r : R) (s : DSt) : Res (Option Int) := match look r s with | some (.int i) => .ok (some i) s | _ => .stuck
@[simp] theorem y_kPart  (r : R) (s : DSt) : kPart  r s = (match look r s with | some (.int i) => .ok (some i) s | _ => .stuck) := Eq.trans rfl rfl
def kSl3 (x : R) (lo : Option Int) (hi : Option Int) (s : DSt) : Res R := match look x s with | some d => (match sliceO d lo hi with | some (.slot _) => .stuck | some r => .ok r s | none => .stuck) | none => .stuck
@[simp] theorem y_kSl3 (x : R) (lo : Option Int) (hi : Option Int) (s : DSt) : kSl3 x lo hi s = (match look x s with | some d => (match sliceO d lo hi with | some (.slot _) => .stuck | some r => .ok r s | none => .stuck) | none => .stuck) := Eq.trans rfl rfl
def kSl2 (b : M (Option Int)) (x : R) (lo : Option Int) (s : DSt) : Res R := (b s).bind (kSl3 x lo)
@[simp] theorem y_kSl2 (b : M (Option Int)) (x : R) (lo : Option Int) (s : DSt) : kSl2 b x lo s = ((b s).bind (kSl3 x lo)) := Eq.trans rfl rfl
def kSl1 (a b : M (Option Int)) (x : R) (s : DSt) : Res R := (a s).bind (kSl2 b x)
@[simp] theorem y_kSl1 (a b : M (Option Int)) (x : R) (s : DSt) : kSl1 a b x s = ((a s).bind (kSl2 b x)) := Eq.trans rfl rfl
def kIsN (b : Bool) (r : R) (s : DSt) : Res R := match isNR r s with | some c => .ok (.val (.bool (if b then !c else c))) s | none => .stuck
@[simp] theorem y_kIsN (b : Bool) (r : R) (s : DSt) : kIsN b r s = (match isNR r s with | some c => .ok (.val (.bool (if b then !c else c))) s | none => .stuck) := Eq.trans rfl rfl
def kDrop  (r : R) (s : DSt) : Flow := .next s
@[simp] theorem y_kDrop  (r : R) (s : DSt) : kDrop  r s = (.next s) := Eq.trans rfl rfl
def kIfS (p q : DSt → Flow) (b : Bool) (s : DSt) : Flow := if b = true then p s else q s
@[simp] theorem y_kIfS (p q : DSt → Flow) (b : Bool) (s : DSt) : kIfS p q b s = (if b = true then p s else q s) := Eq.trans rfl rfl
def kSet (i : Nat) (r : R) (s : DSt) : Flow := if i < s.d.length then (match store i r s with | some s2 => .next s2 | none => .stuck) else .stuck
@[simp] theorem y_kSet (i : Nat) (r : R) (s : DSt) : kSet i r s = (if i < s.d.length then (match store i r s with | some s2 => .next s2 | none => .stuck) else .stuck) := Eq.trans rfl rfl
def kUser (F : List R → Pw → FRes) (rs : List R) (s : DSt) : Res R := onF (F rs s.w) s
@[simp] theorem y_kUser (F : List R → Pw → FRes) (rs : List R) (s : DSt) : kUser F rs s = (onF (F rs s.w) s) := Eq.trans rfl rfl
def kCall (o : List PyData → Option R) (rs : List R) (s : DSt) : Res R := match looks rs s with | some ds => (match o ds with | some (.slot _) => .stuck | some r => .ok r s | none => .stuck) | none => .stuck
@[simp] theorem y_kCall (o : List PyData → Option R) (rs : List R) (s : DSt) : kCall o rs s = (match looks rs s with | some ds => (match o ds with | some (.slot _) => .stuck | some r => .ok r s | none => .stuck) | none => .stuck) := Eq.trans rfl rfl
def kIsi (m : String) (r : R) (s : DSt) : Res R := match look r s with | some d => .ok (.val (.bool (isT m d))) s | none => .stuck
@[simp] theorem y_kIsi (m : String) (r : R) (s : DSt) : kIsi m r s = (match look r s with | some d => .ok (.val (.bool (isT m d))) s | none => .stuck) := Eq.trans rfl rfl
def kLenSet  (r : R) (s : DSt) : Res R := match look r s with | some (.list ds) => (match intsD ds with | some ns => if ns.length ≤ 4000 then .ok (.val (.int (nubI ns).length)) s else .stuck | none => .stuck) | _ => .stuck
@[simp] theorem y_kLenSet  (r : R) (s : DSt) : kLenSet  r s = (match look r s with | some (.list ds) => (match intsD ds with | some ns => if ns.length ≤ 4000 then .ok (.val (.int (nubI ns).length)) s else .stuck | none => .stuck) | _ => .stuck) := Eq.trans rfl rfl
def kIdx2 (x : R) (r : R) (s : DSt) : Res R := match look x s, look r s with | some (.list ds), some d => (match idxO ds d with | some j => .ok (.val (.int (j : Nat))) s | none => .stuck) | _, _ => .stuck
@[simp] theorem y_kIdx2 (x : R) (r : R) (s : DSt) : kIdx2 x r s = (match look x s, look r s with | some (.list ds), some d => (match idxO ds d with | some j => .ok (.val (.int (j : Nat))) s | none => .stuck) | _, _ => .stuck) := Eq.trans rfl rfl
def kIdx (f : M R) (x : R) (s : DSt) : Res R := if isLst x s = true then (f s).bind (kIdx2 x) else .stuck
@[simp] theorem y_kIdx (f : M R) (x : R) (s : DSt) : kIdx f x s = (if isLst x s = true then (f s).bind (kIdx2 x) else .stuck) := Eq.trans rfl rfl
def kApp2 (i : Nat) (r : R) (s : DSt) : Res R := match r, s.d[i]? with | .val d, some (.own ds) => if ltS ds.length then .ok (.val .none) (putS i (.own (ds ++ [d])) s) else .stuck | _, _ => .stuck
@[simp] theorem y_kApp2 (i : Nat) (r : R) (s : DSt) : kApp2 i r s = (match r, s.d[i]? with | .val d, some (.own ds) => if ltS ds.length then .ok (.val .none) (putS i (.own (ds ++ [d])) s) else .stuck | _, _ => .stuck) := Eq.trans rfl rfl
def kApp1 (i : Nat) (r : R) (s : DSt) : Res R := (fEsc r s).bind (kApp2 i)
@[simp] theorem y_kApp1 (i : Nat) (r : R) (s : DSt) : kApp1 i r s = ((fEsc r s).bind (kApp2 i)) := Eq.trans rfl rfl
def kPopAt (i : Nat) (r : R) (s : DSt) : Res R := match look r s, s.d[i]? with | some (.int k), some (.own ds) => (match ixN ds.length k with | some j => (match ds[j]? with | some d => if inW k then .ok (.val d) (putS i (.own (ds.eraseIdx j)) s) else .stuck | none => .stuck) | none => .stuck) | _, _ => .stuck
@[simp] theorem y_kPopAt (i : Nat) (r : R) (s : DSt) : kPopAt i r s = (match look r s, s.d[i]? with | some (.int k), some (.own ds) => (match ixN ds.length k with | some j => (match ds[j]? with | some d => if inW k then .ok (.val d) (putS i (.own (ds.eraseIdx j)) s) else .stuck | none => .stuck) | none => .stuck) | _, _ => .stuck) := Eq.trans rfl rfl
def kIns (i : Nat) (rs : List R) (s : DSt) : Res R := match rs, s.d[i]? with | [.val (.int k), .val d], some (.own ds) => if 0 ≤ k ∧ inW k ∧ ltS ds.length then .ok (.val .none) (putS i (.own (ds.take k.toNat ++ [d] ++ ds.drop k.toNat)) s) else .stuck | _, _ => .stuck
@[simp] theorem y_kIns (i : Nat) (rs : List R) (s : DSt) : kIns i rs s = (match rs, s.d[i]? with | [.val (.int k), .val d], some (.own ds) => if 0 ≤ k ∧ inW k ∧ ltS ds.length then .ok (.val .none) (putS i (.own (ds.take k.toNat ++ [d] ++ ds.drop k.toNat)) s) else .stuck | _, _ => .stuck) := Eq.trans rfl rfl
def kRem (i : Nat) (r : R) (s : DSt) : Res R := match look r s, s.d[i]? with | some (.int k), some (.own ds) => (match intsD ds with | some ns => (match ns.findIdx? (· == k) with | some j => .ok (.val .none) (putS i (.own ((ns.eraseIdx j).map .int)) s) | none => .stuck) | none => .stuck) | _, _ => .stuck
@[simp] theorem y_kRem (i : Nat) (r : R) (s : DSt) : kRem i r s = (match look r s, s.d[i]? with | some (.int k), some (.own ds) => (match intsD ds with | some ns => (match ns.findIdx? (· == k) with | some j => .ok (.val .none) (putS i (.own ((ns.eraseIdx j).map .int)) s) | none => .stuck) | none => .stuck) | _, _ => .stuck) := Eq.trans rfl rfl
def kAug (i : Nat) (o : Int → Int → Int) (a : Int) (r : R) (s : DSt) : Flow := match look r s with | some (.int b) => if i < s.d.length then .next (putS i (.val (.int (o a b))) s) else .stuck | _ => .stuck
@[simp] theorem y_kAug (i : Nat) (o : Int → Int → Int) (a : Int) (r : R) (s : DSt) : kAug i o a r s = (match look r s with | some (.int b) => if i < s.d.length then .next (putS i (.val (.int (o a b))) s) else .stuck | _ => .stuck) := Eq.trans rfl rfl
def kSetIx2 (i : Nat) (r : R) (k : R) (s : DSt) : Flow := match r, look k s, s.d[i]? with | .val d, some (.int n), some (.own ds) => (match ixN ds.length n with | some j => .next (putS i (.own (ds.set j d)) s) | none => .stuck) | _, _, _ => .stuck
@[simp] theorem y_kSetIx2 (i : Nat) (r : R) (k : R) (s : DSt) : kSetIx2 i r k s = (match r, look k s, s.d[i]? with | .val d, some (.int n), some (.own ds) => (match ixN ds.length n with | some j => .next (putS i (.own (ds.set j d)) s) | none => .stuck) | _, _, _ => .stuck) := Eq.trans rfl rfl
def kSetIx (i : Nat) (g : M R) (r : R) (s : DSt) : Flow := if isOwn i s = true then onRes (g s) (kSetIx2 i r) else .stuck
@[simp] theorem y_kSetIx (i : Nat) (g : M R) (r : R) (s : DSt) : kSetIx i g r s = (if isOwn i s = true then onRes (g s) (kSetIx2 i r) else .stuck) := Eq.trans rfl rfl
def kPar (i j : Nat) (rs : List R) (s : DSt) : Flow := match rs with | [r1, r2] => if i < s.d.length ∧ j < s.d.length then .next (putS j (toSl r2) (putS i (toSl r1) s)) else .stuck | _ => .stuck
@[simp] theorem y_kPar (i j : Nat) (rs : List R) (s : DSt) : kPar i j rs s = (match rs with | [r1, r2] => if i < s.d.length ∧ j < s.d.length then .next (putS j (toSl r2) (putS i (toSl r1) s)) else .stuck | _ => .stuck) := Eq.trans rfl rfl
def kAsgB (b : Bd) (r : R) (s : DSt) : Flow := match r with | .val d => (match b d s with | some s2 => .next s2 | none => .stuck) | _ => .stuck
@[simp] theorem y_kAsgB (b : Bd) (r : R) (s : DSt) : kAsgB b r s = (match r with | .val d => (match b d s with | some s2 => .next s2 | none => .stuck) | _ => .stuck) := Eq.trans rfl rfl
def kLstI2  (r : R) (s : DSt) : Res (List PyData) := match r with | .val (.list ds) => .ok ds s | .val (.tuple ds) => .ok ds s | _ => .stuck
@[simp] theorem y_kLstI2  (r : R) (s : DSt) : kLstI2  r s = (match r with | .val (.list ds) => .ok ds s | .val (.tuple ds) => .ok ds s | _ => .stuck) := Eq.trans rfl rfl
def kLstI  (r : R) (s : DSt) : Res (List PyData) := (fEsc r s).bind kLstI2
@[simp] theorem y_kLstI  (r : R) (s : DSt) : kLstI  r s = ((fEsc r s).bind kLstI2) := Eq.trans rfl rfl
def kTupI  (r : R) (s : DSt) : Res (List PyData) := match look r s with | some (.tuple ds) => .ok ds s | _ => .stuck
@[simp] theorem y_kTupI  (r : R) (s : DSt) : kTupI  r s = (match look r s with | some (.tuple ds) => .ok ds s | _ => .stuck) := Eq.trans rfl rfl
def kRng1  (rs : List R) (s : DSt) : Res (List PyData) := match rs with | [r] => (match look r s with | some (.int j) => if inB j then .ok (rangeD 0 j.toNat) s else .stuck | _ => .stuck) | _ => .stuck
@[simp] theorem y_kRng1  (rs : List R) (s : DSt) : kRng1  rs s = (match rs with | [r] => (match look r s with | some (.int j) => if inB j then .ok (rangeD 0 j.toNat) s else .stuck | _ => .stuck) | _ => .stuck) := Eq.trans rfl rfl
def kRng2  (rs : List R) (s : DSt) : Res (List PyData) := match rs with | [r, r2] => (match look r s, look r2 s with | some (.int i), some (.int j) => if inB i ∧ inB j then .ok (rangeD i (j - i).toNat) s else .stuck | _, _ => .stuck) | _ => .stuck
@[simp] theorem y_kRng2  (rs : List R) (s : DSt) : kRng2  rs s = (match rs with | [r, r2] => (match look r s, look r2 s with | some (.int i), some (.int j) => if inB i ∧ inB j then .ok (rangeD i (j - i).toNat) s else .stuck | _, _ => .stuck) | _ => .stuck) := Eq.trans rfl rfl
def kEnum  (rs : List R) (s : DSt) : Res (List PyData) := match rs with | [.val (.list ds)] => .ok (enumD ds) s | _ => .stuck
@[simp] theorem y_kEnum  (rs : List R) (s : DSt) : kEnum  rs s = (match rs with | [.val (.list ds)] => .ok (enumD ds) s | _ => .stuck) := Eq.trans rfl rfl
def kZip  (rs : List R) (s : DSt) : Res (List PyData) := match rs with | [.val (.list ds), .val (.list es)] => .ok (zipD ds es) s | _ => .stuck
@[simp] theorem y_kZip  (rs : List R) (s : DSt) : kZip  rs s = (match rs with | [.val (.list ds), .val (.list es)] => .ok (zipD ds es) s | _ => .stuck) := Eq.trans rfl rfl
def kUn (o : R → M R) (x : R) (s : DSt) : Res R := o x s
@[simp] theorem y_kUn (o : R → M R) (x : R) (s : DSt) : kUn o x s = (o x s) := Eq.trans rfl rfl
def kIxC (c : Addr) (r : R) (s : DSt) : Res R := match s.w, look r s with | some (pa, ca, cells, t), some (.int n) => if c = ca then match atI cells n with | some z => .ok (.val (.int z)) s | none => .stuck else .stuck | _, _ => .stuck
@[simp] theorem y_kIxC (c : Addr) (r : R) (s : DSt) : kIxC c r s = (match s.w, look r s with | some (pa, ca, cells, t), some (.int n) => if c = ca then match atI cells n with | some z => .ok (.val (.int z)) s | none => .stuck else .stuck | _, _ => .stuck) := Eq.trans rfl rfl
@[simp] theorem x_ixC {i : Nat} {f : M R} {s : DSt} : fIxC i f s = (match s.d[i]? with | some (.raw (.ref c)) => (f s).bind (kIxC c) | _ => .stuck) := Eq.trans rfl rfl
@[simp] theorem x_unP {i j k : Nat} {s : DSt} : fUnP i j k s = (match s.d[i]?, s.w with | some (.raw (.ref p)), some (pa, ca, cells, t) => if p = pa ∧ pa ≠ ca ∧ j < s.d.length ∧ k < s.d.length then .next (putS k (.val (.int t)) (putS j (.raw (.ref ca)) s)) else .stuck | _, _ => .stuck) := Eq.trans rfl rfl
@[simp] theorem x_lenC {i : Nat} {s : DSt} : fLenC i s = (match s.d[i]?, s.w with | some (.raw (.ref c)), some (pa, ca, cells, t) => if c = ca then .ok (.val (.int cells.length)) s else .stuck | _, _ => .stuck) := Eq.trans rfl rfl
def kSetT (i : Nat) (r : R) (s : DSt) : Flow := match s.d[i]?, s.w, look r s with | some (.raw (.ref p)), some (pa, ca, cells, t), some (.int n) => if p = pa ∧ pa ≠ ca then .next ⟨s.d, some (pa, ca, cells, n)⟩ else .stuck | _, _, _ => .stuck
@[simp] theorem y_kSetT (i : Nat) (r : R) (s : DSt) : kSetT i r s = (match s.d[i]?, s.w, look r s with | some (.raw (.ref p)), some (pa, ca, cells, t), some (.int n) => if p = pa ∧ pa ≠ ca then .next ⟨s.d, some (pa, ca, cells, n)⟩ else .stuck | _, _, _ => .stuck) := Eq.trans rfl rfl
@[simp] theorem x_setT {i : Nat} {f : M R} {s : DSt} : fSetT i f s = onRes (f s) (kSetT i) := Eq.trans rfl rfl
def kSetC2 (c : Addr) (z : Option PyData) (k : R) (s : DSt) : Flow := match s.w, z, look k s with | some (pa, ca, cells, t), some (.int z), some (.int n) => if c = ca then match ixN cells.length n with | some j => .next ⟨s.d, some (pa, ca, cells.set j z, t)⟩ | none => .stuck else .stuck | _, _, _ => .stuck
@[simp] theorem y_kSetC2 (c : Addr) (z : Option PyData) (k : R) (s : DSt) : kSetC2 c z k s = (match s.w, z, look k s with | some (pa, ca, cells, t), some (.int z), some (.int n) => if c = ca then match ixN cells.length n with | some j => .next ⟨s.d, some (pa, ca, cells.set j z, t)⟩ | none => .stuck else .stuck | _, _, _ => .stuck) := Eq.trans rfl rfl
def kSetC (i : Nat) (g : M R) (r : R) (s : DSt) : Flow := match s.d[i]? with | some (.raw (.ref c)) => onRes (g s) (kSetC2 c (look r s)) | _ => .stuck
@[simp] theorem y_kSetC (i : Nat) (g : M R) (r : R) (s : DSt) : kSetC i g r s = (match s.d[i]? with | some (.raw (.ref c)) => onRes (g s) (kSetC2 c (look r s)) | _ => .stuck) := Eq.trans rfl rfl
@[simp] theorem x_setC {i : Nat} {f g : M R} {s : DSt} : fSetC i f g s = onRes (f s) (kSetC i g) := Eq.trans rfl rfl
section
variable {α β : Type} {i j k n : Nat} {s s1 s2 : DSt} {f g : M R} {fs : M (List R)} {t u : M Bool} {p q : DSt → Flow} {r x y : R} {d e : PyData} {ds es : List PyData} {v : V} {l : List Sl} {w : Pw} {c : Sl}
@[simp] theorem x_var : fVar i s = (match s.d[i]? with | some (.val d) => .ok (.val d) s | some (.raw v) => .ok (.raw v) s | some (.ob o) => .ok (.ob o) s | some (.own _) => .ok (.slot i) s | _ => .stuck) := Eq.trans rfl rfl
@[simp] theorem x_c : fC d s = .ok (.val d) s := Eq.trans rfl rfl
@[simp] theorem x_raw : fRaw v s = .ok (.raw v) s := Eq.trans rfl rfl
@[simp] theorem x_op {o : R → R → M R} : fOp o f g s = (f s).bind (kOp o g) := Eq.trans rfl rfl
@[simp] theorem x_look_val : look (.val d) s = some d := Eq.trans rfl rfl
@[simp] theorem x_look_new : look (.new ds) s = some (.list ds) := Eq.trans rfl rfl
@[simp] theorem x_look_raw : look (.raw v) s = none := Eq.trans rfl rfl
@[simp] theorem x_look_ob {o : OD} : look (.ob o) s = none := Eq.trans rfl rfl
@[simp] theorem x_look_slot : look (.slot i) s = (match s.d[i]? with | some (.own ds) => some (.list ds) | some (.val d) => some d | _ => none) := Eq.trans rfl rfl
@[simp] theorem x_lift1 {o : PyData → Option R} : lift1 o x s = (match look x s with | some d => (match o d with | some (.slot _) => .stuck | some r => .ok r s | none => .stuck) | none => .stuck) := Eq.trans rfl rfl
@[simp] theorem x_lift2 {o : PyData → PyData → Option R} : lift2 o x y s = (match look x s, look y s with | some d, some e => (match o d e with | some (.slot _) => .stuck | some r => .ok r s | none => .stuck) | _, _ => .stuck) := Eq.trans rfl rfl
@[simp] theorem x_B : fB f s = (f s).bind kB := Eq.trans rfl rfl
@[simp] theorem x_and : fAnd t u s = (t s).bind (kAnd u) := by
  show Res.bind _ _ = _
  congr 1
  funext b s
  cases b <;> rfl
@[simp] theorem x_or : fOr t u s = (t s).bind (kOr u) := by
  show Res.bind _ _ = _
  congr 1
  funext b s
  cases b <;> rfl
@[simp] theorem x_not : fNot t s = (t s).bind kNot := Eq.trans rfl rfl
@[simp] theorem x_V : fV t s = (t s).bind kV := Eq.trans rfl rfl
@[simp] theorem x_andV : fAndV f g s = (fB f s).bind (kAndV g) := by
  show Res.bind _ _ = _
  congr 1
  funext b s
  cases b <;> rfl
@[simp] theorem x_orV : fOrV f g s = (fB f s).bind (kOrV g) := by
  show Res.bind _ _ = _
  congr 1
  funext b s
  cases b <;> rfl
@[simp] theorem x_if : fIf t f g s = (t s).bind (kIf f g) := by
  show Res.bind _ _ = _
  congr 1
  funext b s
  cases b <;> rfl
@[simp] theorem x_esc_val : esc (.val d) s = some (.val d, s) := Eq.trans rfl rfl
@[simp] theorem x_esc_raw : esc (.raw v) s = some (.raw v, s) := Eq.trans rfl rfl
@[simp] theorem x_esc_ob {o : OD} : esc (.ob o) s = some (.ob o, s) := Eq.trans rfl rfl
@[simp] theorem x_esc_new : esc (.new ds) s = some (.val (.list ds), s) := Eq.trans rfl rfl
@[simp] theorem x_esc_slot : esc (.slot i) s = (match s.d[i]? with | some (.own ds) => some (.val (.list ds), ⟨s.d.set i (.val (.list ds)), s.w⟩) | some (.val d) => some (.val d, s) | _ => none) := Eq.trans rfl rfl
@[simp] theorem x_Esc : fEsc r s = (match esc r s with | some (r', s') => .ok r' s' | none => .stuck) := Eq.trans rfl rfl
@[simp] theorem x_nil : fNil s = .ok [] s := Eq.trans rfl rfl
@[simp] theorem x_cons : fCons f fs s = (f s).bind (kCons fs) := Eq.trans rfl rfl
@[simp] theorem x_pcons : pCons f fs s = (f s).bind (kCons2 fs) := Eq.trans rfl rfl
@[simp] theorem x_datas_nil : datas [] = some [] := Eq.trans rfl rfl
@[simp] theorem x_datas_cons {rs : List R} : datas (.val d :: rs) = (datas rs).map (d :: ·) := Eq.trans rfl rfl
@[simp] theorem x_lst : fLst fs s = (fs s).bind kLst := Eq.trans rfl rfl
@[simp] theorem x_tup : fTup fs s = (fs s).bind kTup := Eq.trans rfl rfl
@[simp] theorem x_part : fPart f s = (f s).bind kPart := Eq.trans rfl rfl
@[simp] theorem x_nopart : fNoPart s = .ok none s := Eq.trans rfl rfl
@[simp] theorem x_slice {a b : M (Option Int)} : fSlice f a b s = (f s).bind (kSl1 a b) := Eq.trans rfl rfl
@[simp] theorem x_un {o : R → M R} : fUn o f s = (f s).bind (kUn o) := Eq.trans rfl rfl
@[simp] theorem x_isN {b : Bool} : fIsN b f s = (f s).bind (kIsN b) := Eq.trans rfl rfl
@[simp] theorem x_isN_val : isNR (.val d) s = some (match d with | .none => true | _ => false) := by cases d <;> rfl
@[simp] theorem x_isN_ob {o : OD} : isNR (.ob o) s = some false := Eq.trans rfl rfl
@[simp] theorem x_isN_new : isNR (.new ds) s = some false := Eq.trans rfl rfl
@[simp] theorem x_isN_slot : isNR (.slot i) s = (match s.d[i]? with | some (.own _) => some false | some (.val d) => some (match d with | .none => true | _ => false) | _ => none) := by
  show (match look (.slot i) s with | some .none => some true | some _ => some false | none => none) = _
  rw [x_look_slot]
  cases s.d[i]? with
  | none => rfl
  | some c =>
    cases c with
    | val d => cases d <;> rfl
    | _ => rfl
@[simp] theorem x_onRes_ok {a : α} {h : α → DSt → Flow} : onRes (.ok a s) h = h a s := Eq.trans rfl rfl
@[simp] theorem x_onRes_err {z : Exn} {h : α → DSt → Flow} : onRes (.err z s) h = .err z s := Eq.trans rfl rfl
@[simp] theorem x_onRes_stuck {h : α → DSt → Flow} : onRes .stuck h = .stuck := Eq.trans rfl rfl
@[simp] theorem x_seq : fseq p q s = andThen (p s) q := Eq.trans rfl rfl
@[simp] theorem x_next : fnext s = .next s := Eq.trans rfl rfl
@[simp] theorem x_brk : fbrk s = .brk s := Eq.trans rfl rfl
@[simp] theorem x_cnt : fcnt s = .cnt s := Eq.trans rfl rfl
@[simp] theorem x_never : fnever s = .stuck := Eq.trans rfl rfl
@[simp] theorem x_drop : fDrop f s = onRes (f s) kDrop := Eq.trans rfl rfl
@[simp] theorem x_ret : fRet f s = onRes (f s) Flow.ret := Eq.trans rfl rfl
@[simp] theorem x_retN : fRetN s = .ret (.val .none) s := Eq.trans rfl rfl
@[simp] theorem x_ifS : fIfS t p q s = onRes (t s) (kIfS p q) := by
  show onRes _ _ = _
  congr 1
@[simp] theorem x_store_val : store i (.val d) s = some (putS i (.val d) s) := Eq.trans rfl rfl
@[simp] theorem x_store_raw : store i (.raw v) s = some (putS i (.raw v) s) := Eq.trans rfl rfl
@[simp] theorem x_store_ob {o : OD} : store i (.ob o) s = some (putS i (.ob o) s) := Eq.trans rfl rfl
@[simp] theorem x_store_new : store i (.new ds) s = some (putS i (.own ds) s) := Eq.trans rfl rfl
@[simp] theorem x_store_slot : store i (.slot j) s = (match s.d[j]? with | some (.own ds) => some (putS i (.val (.list ds)) (putS j (.val (.list ds)) s)) | some (.val d) => some (putS i (.val d) s) | _ => none) := Eq.trans rfl rfl
@[simp] theorem x_putS : putS i c ⟨l, w⟩ = ⟨l.set i c, w⟩ := Eq.trans rfl rfl
@[simp] theorem x_set : fSet i f s = onRes (f s) (kSet i) := Eq.trans rfl rfl
@[simp] theorem x_user {F : List R → Pw → FRes} : fUser F fs s = (fs s).bind (kUser F) := Eq.trans rfl rfl
@[simp] theorem x_call {o : List PyData → Option R} : fCall o fs s = (fs s).bind (kCall o) := Eq.trans rfl rfl
@[simp] theorem x_looks_nil : looks [] s = some [] := Eq.trans rfl rfl
@[simp] theorem x_looks_cons {rs : List R} : looks (r :: rs) s = (match look r s, looks rs s with | some d, some ds => some (d :: ds) | _, _ => none) := Eq.trans rfl rfl
@[simp] theorem x_isi {m : String} : fIsi m f s = (f s).bind (kIsi m) := Eq.trans rfl rfl
@[simp] theorem x_lenSet : fLenSet f s = (f s).bind kLenSet := Eq.trans rfl rfl
@[simp] theorem x_isLst_val : isLst (.val (.list ds)) s = true := Eq.trans rfl rfl
@[simp] theorem x_isLst_new : isLst (.new ds) s = true := Eq.trans rfl rfl
@[simp] theorem x_isLst_slot : isLst (.slot i) s = (match s.d[i]? with | some (.own _) => true | some (.val (.list _)) => true | _ => false) := by
  show (match look (.slot i) s with | some (.list _) => true | _ => false) = _
  rw [x_look_slot]
  cases s.d[i]? with
  | none => rfl
  | some c =>
    cases c with
    | val d => cases d <;> rfl
    | _ => rfl
@[simp] theorem x_index : fIndex g f s = (g s).bind (kIdx f) := by
  show Res.bind _ _ = _
  congr 1
@[simp] theorem x_isOwn : isOwn i s = (match s.d[i]? with | some (.own _) => true | _ => false) := Eq.trans rfl rfl
@[simp] theorem x_app : fApp i f s = if isOwn i s = true then (f s).bind (kApp1 i) else .stuck := Eq.trans rfl rfl
@[simp] theorem x_pop : fPop i s = (match s.d[i]? with | some (.own ds) => (match ds[ds.length - 1]? with | some d => .ok (.val d) (putS i (.own ds.dropLast) s) | none => .stuck) | _ => .stuck) := Eq.trans rfl rfl
@[simp] theorem x_popAt : fPopAt i f s = if isOwn i s = true then (f s).bind (kPopAt i) else .stuck := Eq.trans rfl rfl
@[simp] theorem x_ins : fIns i fs s = if isOwn i s = true then (fs s).bind (kIns i) else .stuck := Eq.trans rfl rfl
@[simp] theorem x_rem : fRem i f s = if isOwn i s = true then (f s).bind (kRem i) else .stuck := Eq.trans rfl rfl
@[simp] theorem x_clear : fClear i s = (match s.d[i]? with | some (.own _) => .ok (.val .none) (putS i (.own []) s) | _ => .stuck) := Eq.trans rfl rfl
@[simp] theorem x_aug {o : Int → Int → Int} : fAug i o f s = (match s.d[i]? with | some (.val (.int a)) => onRes (f s) (kAug i o a) | _ => .stuck) := Eq.trans rfl rfl
@[simp] theorem x_setIx : fSetIx i f g s = onRes ((f s).bind fEsc) (kSetIx i g) := Eq.trans rfl rfl
@[simp] theorem x_toSl_val : toSl (.val d) = .val d := Eq.trans rfl rfl
@[simp] theorem x_toSl_ob {o : OD} : toSl (.ob o) = .ob o := Eq.trans rfl rfl
@[simp] theorem x_toSl_raw : toSl (.raw v) = .raw v := Eq.trans rfl rfl
@[simp] theorem x_par : fPar i j fs s = onRes (fs s) (kPar i j) := Eq.trans rfl rfl
@[simp] theorem x_bName : bName i d s = if i < s.d.length then some (putS i (.val d) s) else none := Eq.trans rfl rfl
@[simp] theorem x_bTup {bs : Bds} : bTup n bs (.tuple ds) s = if ds.length = n then bs ds s else none := Eq.trans rfl rfl
@[simp] theorem x_bSeq_t {bs : Bds} : bSeq n bs (.tuple ds) s = if ds.length = n then bs ds s else none := Eq.trans rfl rfl
@[simp] theorem x_bSeq_l {bs : Bds} : bSeq n bs (.list ds) s = if ds.length = n then bs ds s else none := Eq.trans rfl rfl
@[simp] theorem x_bNil : bNil [] s = some s := Eq.trans rfl rfl
@[simp] theorem x_bCons {b : Bd} {bs : Bds} : bCons b bs (d :: ds) s = (match b d s with | some s' => bs ds s' | none => none) := Eq.trans rfl rfl
@[simp] theorem x_asgB {b : Bd} : fAsgB f b s = onRes ((f s).bind fEsc) (kAsgB b) := Eq.trans rfl rfl
@[simp] theorem x_lstI : fLstI f s = (f s).bind kLstI := Eq.trans rfl rfl
@[simp] theorem x_tupI : fTupI f s = (f s).bind kTupI := Eq.trans rfl rfl
@[simp] theorem x_rng1 : fRng1 fs s = (fs s).bind kRng1 := Eq.trans rfl rfl
@[simp] theorem x_rng2 : fRng2 fs s = (fs s).bind kRng2 := Eq.trans rfl rfl
@[simp] theorem x_enum : fEnum fs s = (fs s).bind kEnum := Eq.trans rfl rfl
@[simp] theorem x_zip : fZip fs s = (fs s).bind kZip := Eq.trans rfl rfl
@[simp] theorem x_for {fi : M (List PyData)} {b : Bd} : fFor fi b p s = onRes (fi s) (loopF b p) := Eq.trans rfl rfl
@[simp] theorem x_yes : fYes s = .ok true s := Eq.trans rfl rfl
@[simp] theorem x_addII {a b : Int} : addO (.int a) (.int b) = some (.val (.int (a + b))) := Eq.trans rfl rfl
@[simp] theorem x_addLL : addO (.list ds) (.list es) = if leS (ds.length + es.length) then some (.new (ds ++ es)) else none := Eq.trans rfl rfl
@[simp] theorem x_addTT : addO (.tuple ds) (.tuple es) = if leS (ds.length + es.length) then some (.val (.tuple (ds ++ es))) else none := Eq.trans rfl rfl
@[simp] theorem x_sub {a b : Int} : subO (.int a) (.int b) = some (.val (.int (a - b))) := Eq.trans rfl rfl
theorem x_mul {a b : Int} : mulO (.int a) (.int b) = if lgM a b then some (.val (.int (a * b))) else none := Eq.trans rfl rfl
@[simp] theorem x_mulL {k : Int} : mulO (.list ds) (.int k) = if inW k ∧ leS (ds.length * k.toNat) then some (.new (List.replicate k.toNat ds).flatten) else none := Eq.trans rfl rfl
theorem x_fdiv {a b : Int} : fdivO (.int a) (.int b) = if 0 < b ∧ lgD b then some (.val (.int (a / b))) else none := Eq.trans rfl rfl
theorem x_mod {a b : Int} : modO (.int a) (.int b) = if 0 < b then some (.val (.int (a % b))) else none := Eq.trans rfl rfl
theorem x_pow {a b : Int} : powO (.int a) (.int b) = if 0 ≤ b ∧ leP b ∧ lgP a then some (.val (.int (a ^ b.toNat))) else none := Eq.trans rfl rfl
@[simp] theorem x_lt {a b : Int} : ltO (.int a) (.int b) = some (.val (.bool (decide (a < b)))) := Eq.trans rfl rfl
@[simp] theorem x_le {a b : Int} : leO (.int a) (.int b) = some (.val (.bool (decide (a ≤ b)))) := Eq.trans rfl rfl
@[simp] theorem x_gt {a b : Int} : gtO (.int a) (.int b) = some (.val (.bool (decide (b < a)))) := Eq.trans rfl rfl
@[simp] theorem x_ge {a b : Int} : geO (.int a) (.int b) = some (.val (.bool (decide (b ≤ a)))) := Eq.trans rfl rfl
@[simp] theorem x_neg {a : Int} : negO (.int a) = some (.val (.int (-a))) := Eq.trans rfl rfl
@[simp] theorem x_rev : revO (.list ds) = some (.new ds.reverse) := Eq.trans rfl rfl
@[simp] theorem x_ixL {a : Int} : ixO (.list ds) (.int a) = (atI ds a).map .val := Eq.trans rfl rfl
@[simp] theorem x_ixT {a : Int} : ixO (.tuple ds) (.int a) = (atI ds a).map .val := Eq.trans rfl rfl
@[simp] theorem x_lenL : lenO [.list ds] = some (.val (.int ds.length)) := Eq.trans rfl rfl
@[simp] theorem x_lenT : lenO [.tuple ds] = some (.val (.int ds.length)) := Eq.trans rfl rfl
@[simp] theorem x_listL : listO [.list ds] = some (.new ds) := Eq.trans rfl rfl
@[simp] theorem x_listT : listO [.tuple ds] = some (.new ds) := Eq.trans rfl rfl
@[simp] theorem x_tupL : tupleO [.list ds] = some (.val (.tuple ds)) := Eq.trans rfl rfl
@[simp] theorem x_sliceL {lo hi : Option Int} : sliceO (.list ds) lo hi = some (.new (cutD ds lo hi)) := Eq.trans rfl rfl
@[simp] theorem x_sliceT {lo hi : Option Int} : sliceO (.tuple ds) lo hi = some (.val (.tuple (cutD ds lo hi))) := Eq.trans rfl rfl
@[simp] theorem x_allO : allO [.list ds] = (boolsD ds).map fun bs => .val (.bool (bs.all id)) := Eq.trans rfl rfl
@[simp] theorem x_anyO : anyO [.list ds] = (boolsD ds).map fun bs => .val (.bool (bs.any id)) := Eq.trans rfl rfl
@[simp] theorem x_sumO : sumO [.list ds] = (intsD ds).map fun bs => .val (.int bs.sum) := Eq.trans rfl rfl
@[simp] theorem x_sortedO : sortedO [.list ds] = (match intsD ds with | some ns => some (.new ((sortI ns).map .int)) | none => if canSort ds then some (.new (sortDD ds)) else none) := Eq.trans rfl rfl
@[simp] theorem x_absO {a : Int} : absO [.int a] = some (.val (.int (if a < 0 then -a else a))) := Eq.trans rfl rfl
@[simp] theorem x_intI {a : Int} : intO [.int a] = some (.val (.int a)) := Eq.trans rfl rfl
@[simp] theorem x_intB {b : Bool} : intO [.bool b] = some (.val (.int (if b then 1 else 0))) := Eq.trans rfl rfl
@[simp] theorem x_max2 {a b : Int} : maxO [.int a, .int b] = some (.val (.int (if b > a then b else a))) := Eq.trans rfl rfl
@[simp] theorem x_min2 {a b : Int} : minO [.int a, .int b] = some (.val (.int (if b < a then b else a))) := Eq.trans rfl rfl
@[simp] theorem x_isT_int {a : Int} {m : String} : isT m (.int a) = (m == "int") := by simp [isT, isN, tyN]
@[simp] theorem x_isT_bool {a : Bool} {m : String} : isT m (.bool a) = (m == "bool" || m == "int") := by simp [isT, isN, tyN]
@[simp] theorem x_isT_list {m : String} : isT m (.list ds) = (m == "list") := by simp [isT, isN, tyN]
@[simp] theorem x_isT_tuple {m : String} : isT m (.tuple ds) = (m == "tuple") := by simp [isT, isN, tyN]
@[simp] theorem x_isT_str {a : Str} {m : String} : isT m (.str a) = (m == "str") := by simp [isT, isN, tyN]
@[simp] theorem x_isT_none {m : String} : isT m .none = (m == "NoneType") := by simp [isT, isN, tyN]
@[simp] theorem x_finR_val : finR (.val d) s = some (.val d) := Eq.trans rfl rfl
@[simp] theorem x_finR_new : finR (.new ds) s = some (.new ds) := Eq.trans rfl rfl
@[simp] theorem x_finR_raw : finR (.raw v) s = some (.raw v) := Eq.trans rfl rfl
@[simp] theorem x_finR_ob {o : OD} : finR (.ob o) s = some (.ob o) := Eq.trans rfl rfl
@[simp] theorem x_finR_slot : finR (.slot i) s = (match s.d[i]? with | some (.own ds) => some (.new ds) | some (.val d) => some (.val d) | _ => none) := Eq.trans rfl rfl
theorem x_runF {m : Nat} {rs : List R} : runF n m p rs w = if rs.length = m then finF (p ⟨rs.map toSl ++ List.replicate (n - m) .no, w⟩) else .stuck := Eq.trans rfl rfl
end
/-! ### loops -/
theorem loopF_inv {b : Bd} {p : DSt → Flow} (Inv : Nat → DSt → Prop) {ds : List PyData} {s : DSt} (h0 : Inv 0 s) (step : ∀ (i : Nat) (d : PyData) (s : DSt), ds[i]? = some d → Inv i s → ∃ s1 s2, b d s = some s1 ∧ p s1 = .next s2 ∧ Inv (i + 1) s2) : ∃ s', loopF b p ds s = .next s' ∧ Inv ds.length s' := by
  induction ds generalizing s Inv with
  | nil => exact ⟨s, rfl, h0⟩
  | cons d ds ih =>
    obtain ⟨s1, s2, e1, e2, h2⟩ := step 0 d s rfl h0
    obtain ⟨s', e, h⟩ := ih (fun i => Inv (i + 1)) h2 fun i d s hi h => step (i + 1) d s (by simpa using hi) h
    refine ⟨s', ?_, h⟩
    unfold loopF
    simp only [e1, e2]
    exact e
theorem whileF_inv {c : M Bool} {p : DSt → Flow} (Inv : DSt → Prop) (m : DSt → Nat) (n : Nat) {s : DSt} (h0 : Inv s) (hn : m s < n)
    (step : ∀ s, Inv s → (∃ s1, c s = .ok true s1 ∧ ∃ s2, p s1 = .next s2 ∧ Inv s2 ∧ m s2 < m s) ∨ (c s = .ok false s)) : ∃ s', whileF c p n s = .next s' ∧ Inv s' ∧ c s' = .ok false s' := by
  induction n generalizing s with
  | zero => omega
  | succ n ih =>
    rcases step s h0 with ⟨s1, e1, s2, e2, h2, hm⟩ | e
    · obtain ⟨s', e, h⟩ := ih h2 (by omega)
      refine ⟨s', ?_, h⟩
      unfold whileF
      simp only [e1, x_onRes_ok, if_true, e2]
      exact e
    · refine ⟨s, ?_, h0, e⟩
      unfold whileF
      simp [e]
/-! ### comprehensions -/
end DL

/-! DL16: what is asked of a law's own body, and the end -/
noncomputable section
namespace DL
open PySem L2 PyProof.Rows
def PurseOk (n : Nat) (p : DSt → Flow) : Prop := ∀ (a : Addr) (ns : List Int), ns.length ≤ 63 → ∃ (cells : List Int) (s' : DSt), p ⟨.raw (.ref a) :: .own (ns.map .int) :: List.replicate (n - 2) .no, none⟩ = .ret (.new [.list (cells.map .int), .int 0]) s' ∧ cells ≠ [] ∧ cells.length ≤ 63
def LawOk (n : Nat) (p : DSt → Flow) : Prop := ∀ (a pa ca : Addr) (cells : List Int), pa ≠ ca → cells ≠ [] → cells.length ≤ 63 → ∃ s', p ⟨(Sl.raw (.ref a) :: List.replicate (n - 1) Sl.no).set 1 (.raw (.ref pa)), some (pa, ca, cells, 0)⟩ = .ret (.val (.bool true)) s'
theorem wr_mk {K : PySem.W.Frag} {h : Heap} {mg : Str → Option Value} {x : Str} {st : Stmt} {f : Addr} {oc : Value} {od an : Option Addr} {osl : Array (Option Value)} {kV doc pm cdv ct : Value} {ps : List Str} (X : K.In h) (G : h.Ns mainGlobals mg)
    (a : PySem.W.nsIn K mainGlobals x = some (some (.ref f))) (l : K.lookup f = some ⟨oc, od, .func (PySem.W.fnOf x x (defArgs st) (defBody st) (defScope st) .none kV doc pm an cdv ct), osl⟩)
    (c : PySem.W.codeIn K cdv x = true) (k : PySem.W.keepIn K (.ref f) = true) (h : ∀ (kV doc pm : Value) (an : Option Addr) (cdv ct : Value) (us : List Value), us.length = ps.length → bindArgs (PySem.W.fnOf x x (defArgs st) (defBody st) (defScope st) .none kV doc pm an cdv ct) ⟨us, []⟩ = pure (ps.zip us)) : Wr K mg x st ps :=
  ⟨f, _, fun_mk l c k, PySem.W.mg_of X G a, (fun_mk l c k).binds h⟩
theorem walk {l : PySem.W.OpenLaw} {q : Program} {loose : List Str} {XP : (Str → Option Value) → Heap → Prop} {YP : World → Heap → Prop} {d : DefRec} {K : Params → PySem.W.Frag} {k : Nat} {x : Str} (hn : l.most = some 63) (hdf : d.params.defaults = []) (hr : Room k callerA)
    (h0 : tabA = []) (hY : ∀ (w : World) (h : Heap), YP w h → (K w.params).In h)
    (F : ∀ (w : World) (mg : Str → Option Value) (fa : Addr) (h : Heap), (K w.params).In h → h.Ns mainGlobals mg → mg d.name = some (.ref fa) →
      ∃ fd : FuncData, (∀ (s : Shared) (u : Value), BindsTo s fd ⟨[u], []⟩ [(x, u)]) ∧ ∀ base : Heap, (K w.params).In base → base.Ns mainGlobals mg → FnG l.prog w (K w.params) mg base (L2.CX l.prog w) k fa fd [x] (spLaw (K w.params))) :
    PySem.W.WalkO q loose XP YP l.row.toRowW d [] (fun f vs => PySem.call f vs) := by
  refine Att.attach_call hn hdf fun w _ s1 mg mb fa _ _ _ _ a us ns G Y _ _ _ hmg scr hi hl g0 => ?_
  have KX := hY w _ Y
  obtain ⟨fd, bi, FF⟩ := F w mg fa _ KX G.T.g hmg
  exact law_goes KX G.T.g G.T.b G.T.builtins G.T.nolimit g0 scr hi (Nat.le_trans hl (by decide)) hr FF bi fun H _ hS => ⟨a, ns, rfl, hS, hl, (fun p hp => by rw [h0] at hp; cases hp), fun _ => rfl⟩
end DL

/-! DL17: data in plain words: equality, places, cuts -/
noncomputable section
namespace DL
open PySem L2
/-! ### no truth value and no dict within: == is equality -/
mutual
def calmD : PyData → Bool
  | .none | .int _ | .str _ => true
  | .list xs | .tuple xs => calmA xs
  | _ => false
def calmA : List PyData → Bool
  | [] => true
  | x :: xs => calmD x && calmA xs
end
mutual
theorem eqv_calm : ∀ d e : PyData, calmD d = true → calmD e = true → (PyData.eqv d e = true ↔ d = e)
  | .none, e, _, h => by cases e <;> simp [PyData.eqv, calmD] at *
  | .int i, e, _, h => by cases e <;> simp [PyData.eqv, calmD] at *
  | .str i, e, _, h => by cases e <;> simp [PyData.eqv, calmD] at *
  | .list xs, e, h1, h => by
    cases e <;> simp [PyData.eqv, calmD] at *
    rename_i ys
    exact eqvAll_calm xs ys h1 h
  | .tuple xs, e, h1, h => by
    cases e <;> simp [PyData.eqv, calmD] at *
    rename_i ys
    exact eqvAll_calm xs ys h1 h
  | .bool _, _, h, _ => by simp [calmD] at h
  | .dict _, _, h, _ => by simp [calmD] at h
theorem eqvAll_calm : ∀ xs ys : List PyData, calmA xs = true → calmA ys = true → (PyData.eqvAll xs ys = true ↔ xs = ys)
  | [], ys, _, _ => by cases ys <;> simp [PyData.eqvAll]
  | x :: xs, ys, h1, h => by
    cases ys with
    | nil => simp [PyData.eqvAll]
    | cons y ys =>
      simp [calmA] at h1 h
      simp [PyData.eqvAll, eqv_calm x y h1.1 h.1, eqvAll_calm xs ys h1.2 h.2]
end
theorem eqv_dec {d e : PyData} {p : Prop} [Decidable p] (h1 : calmD d = true) (h2 : calmD e = true) (h : d = e ↔ p) : PyData.eqv d e = decide p := by
  rw [Bool.eq_iff_iff, eqv_calm d e h1 h2, h]
  simp
@[simp] theorem calm_int {i : Int} : calmD (.int i) = true := rfl
@[simp] theorem calm_str {i : Str} : calmD (.str i) = true := rfl
@[simp] theorem calm_none : calmD .none = true := rfl
@[simp] theorem calm_list {xs : List PyData} : calmD (.list xs) = calmA xs := rfl
@[simp] theorem calm_tuple {xs : List PyData} : calmD (.tuple xs) = calmA xs := rfl
@[simp] theorem calm_nil : calmA [] = true := rfl
@[simp] theorem calm_cons {x : PyData} {xs : List PyData} : calmA (x :: xs) = (calmD x && calmA xs) := rfl
@[simp] theorem calm_map {α : Type} {f : α → PyData} {l : List α} : calmA (l.map f) = l.all fun a => calmD (f a) := by
  induction l with
  | nil => rfl
  | cons a l ih => simp [ih]
@[simp] theorem calm_app {xs ys : List PyData} : calmA (xs ++ ys) = (calmA xs && calmA ys) := by
  induction xs with
  | nil => simp
  | cons a l ih => simp [ih, Bool.and_assoc]
theorem depthAll_le {xs : List PyData} {n : Nat} : PyData.depthAll xs ≤ n ↔ ∀ x ∈ xs, x.depth ≤ n := by
  induction xs with
  | nil => simp [PyData.depthAll]
  | cons x xs ih => simp [PyData.depthAll, ih, Nat.max_le]
@[simp] theorem dep_int {i : Int} : (PyData.int i).depth = 0 := rfl
@[simp] theorem dep_str {i : Str} : (PyData.str i).depth = 0 := rfl
@[simp] theorem dep_bool {i : Bool} : (PyData.bool i).depth = 0 := rfl
@[simp] theorem dep_none : (PyData.none).depth = 0 := rfl
@[simp] theorem dep_list {xs : List PyData} : (PyData.list xs).depth = PyData.depthAll xs + 1 := rfl
@[simp] theorem dep_tuple {xs : List PyData} : (PyData.tuple xs).depth = PyData.depthAll xs + 1 := rfl
@[simp] theorem dep_nil : PyData.depthAll [] = 0 := rfl
@[simp] theorem dep_cons {x : PyData} {xs : List PyData} : PyData.depthAll (x :: xs) = max x.depth (PyData.depthAll xs) := rfl
@[simp] theorem dep_ints {ns : List Int} : PyData.depthAll (ns.map .int) = 0 := by
  induction ns with
  | nil => rfl
  | cons a l ih => simp [ih]
theorem eqO_calm {d e : PyData} {p : Prop} [Decidable p] (h1 : calmD d = true) (h2 : calmD e = true) (hp : d = e ↔ p) (h : d.depth ≤ 60) : eqO d e = some (.val (.bool (decide p))) := by
  unfold eqO
  rw [if_pos (by omega), eqv_dec h1 h2 hp]
theorem neO_calm {d e : PyData} {p : Prop} [Decidable p] (h1 : calmD d = true) (h2 : calmD e = true) (hp : d = e ↔ p) (h : d.depth ≤ 60) : neO d e = some (.val (.bool (decide (¬ p)))) := by
  unfold neO
  rw [if_pos (by omega), eqv_dec h1 h2 hp]
  simp
theorem int_inj : Function.Injective PyData.int := fun a b h => by cases h; rfl
@[simp] theorem map_int_inj {ns ms : List Int} : ns.map PyData.int = ms.map PyData.int ↔ ns = ms := by
  constructor
  · exact fun h => (List.map_inj_right (fun a b h => int_inj h)).mp h
  · exact fun h => by rw [h]
@[simp] theorem x_eqI {a b : Int} : eqO (.int a) (.int b) = some (.val (.bool (decide (a = b)))) := eqO_calm rfl rfl (by simp) (by simp)
@[simp] theorem x_neI {a b : Int} : neO (.int a) (.int b) = some (.val (.bool (decide (¬ a = b)))) := neO_calm rfl rfl (by simp) (by simp)
@[simp] theorem x_eqB {a b : Bool} : eqO (.bool a) (.bool b) = some (.val (.bool (a == b))) := by simp [eqO, PyData.eqv]
@[simp] theorem x_neB {a b : Bool} : neO (.bool a) (.bool b) = some (.val (.bool (a != b))) := by simp [neO, PyData.eqv, bne]
@[simp] theorem x_eqS {a b : Str} : eqO (.str a) (.str b) = some (.val (.bool (decide (a = b)))) := eqO_calm rfl rfl (by simp) (by simp)
@[simp] theorem x_neS {a b : Str} : neO (.str a) (.str b) = some (.val (.bool (decide (¬ a = b)))) := neO_calm rfl rfl (by simp) (by simp)
@[simp] theorem x_eqL {a b : List Int} : eqO (.list (a.map .int)) (.list (b.map .int)) = some (.val (.bool (decide (a = b)))) := eqO_calm (by simp) (by simp) (by simp) (by simp)
@[simp] theorem x_neL {a b : List Int} : neO (.list (a.map .int)) (.list (b.map .int)) = some (.val (.bool (decide (¬ a = b)))) := neO_calm (by simp) (by simp) (by simp) (by simp)
theorem eqvAll_nil {ds : List PyData} : PyData.eqvAll ds [] = ds.isEmpty := by cases ds <;> rfl
@[simp] theorem x_eqDn {ds : List PyData} : eqO (.list ds) (.list []) = some (.val (.bool ds.isEmpty)) := by
  unfold eqO
  rw [if_pos (by simp)]
  simp [PyData.eqv, eqvAll_nil]
@[simp] theorem x_neDn {ds : List PyData} : neO (.list ds) (.list []) = some (.val (.bool (!ds.isEmpty))) := by
  unfold neO
  rw [if_pos (by simp)]
  simp [PyData.eqv, eqvAll_nil]
@[simp] theorem x_inL {a : Int} {ns : List Int} : inO (.int a) (.list (ns.map .int)) = some (.val (.bool (decide (a ∈ ns)))) := by
  unfold inO
  simp only [items, dep_ints, dep_int]
  rw [if_pos (by decide)]
  congr 3
  rw [Bool.eq_iff_iff]
  simp [PyData.eqv]
@[simp] theorem x_notInL {a : Int} {ns : List Int} : notInO (.int a) (.list (ns.map .int)) = some (.val (.bool (decide (¬ a ∈ ns)))) := by
  have h := x_inL (a := a) (ns := ns)
  unfold inO at h
  unfold notInO
  simp only [items, dep_ints, dep_int] at h ⊢
  rw [if_pos (by decide)] at h ⊢
  injection h with h
  injection h with h
  injection h with h
  rw [h]
  simp
theorem boolsD_map' {α : Type} {f : α → Bool} {l : List α} : boolsD (l.map fun a => .bool (f a)) = some (l.map f) := by
  induction l with
  | nil => rfl
  | cons a l ih => simp [boolsD, ih]
/-! ### places -/
theorem atI_nat {α : Type} {xs : List α} {k : Nat} : atI xs (k : Int) = xs[k]? := by
  unfold atI ixN
  rw [if_pos (by omega)]
  by_cases h : k < xs.length
  · rw [if_pos (by omega)]; simp
  · rw [if_neg (by omega)]; simp; omega
theorem atI_pos {α : Type} {xs : List α} {i : Int} (h : 0 ≤ i) : atI xs i = xs[i.toNat]? := by
  obtain ⟨k, rfl⟩ := Int.eq_ofNat_of_zero_le h
  exact atI_nat
@[simp] theorem atI_0 {α : Type} {xs : List α} : atI xs 0 = xs[0]? := atI_nat (k := 0)
@[simp] theorem atI_1 {α : Type} {xs : List α} : atI xs 1 = xs[1]? := atI_nat (k := 1)
@[simp] theorem atI_2 {α : Type} {xs : List α} : atI xs 2 = xs[2]? := atI_nat (k := 2)
theorem atI_mapF {α β : Type} {f : α → β} {xs : List α} {i : Int} : atI (xs.map f) i = (atI xs i).map f := by
  unfold atI
  rw [List.length_map]
  cases ixN xs.length i with
  | none => rfl
  | some j => simp
theorem atI_some {α : Type} {xs : List α} {i : Int} (h0 : 0 ≤ i) (h : i < xs.length) : ∃ x, atI xs i = some x ∧ x ∈ xs := by
  rw [atI_pos h0]
  exact ⟨xs[i.toNat]'(by omega), List.getElem?_eq_getElem _, List.getElem_mem _⟩
/-! ### cuts -/
def cutI {α : Type} (xs : List α) (lo hi : Option Int) : List α := (xs.drop (HT.sIx xs.length 0 lo)).take (HT.sIx xs.length xs.length hi - HT.sIx xs.length 0 lo)
theorem sIx_nat {n d k : Nat} : HT.sIx n d (some (k : Int)) = min k n := by
  unfold HT.sIx
  simp
  try omega
theorem sIx_none {n d : Nat} : HT.sIx n d none = d := rfl
/-! ### a set's length -/
theorem nub_len {ns : List Int} (h : ns.Nodup) : (nubI ns).length = ns.length := by
  unfold nubI
  have key : ∀ (i : Nat), i ≤ ns.length → PyProof.Rows.firstMet (fun i => ns.getD i 0) i = ns.take i := by
    intro i
    induction i with
    | zero => intro _; simp [PyProof.Rows.firstMet_zero]
    | succ i ih =>
      intro hi
      rw [PyProof.Rows.firstMet_succ, ih (by omega)]
      have e : ns.getD i 0 = ns[i] := by simp [List.getD_eq_getElem?_getD, List.getElem?_eq_getElem (by omega : i < ns.length)]
      rw [e, List.take_add_one, List.getElem?_eq_getElem (by omega : i < ns.length)]
      unfold PyProof.Rows.step_dedup
      have nin : ((ns.take i).any (· == ns[i])) = false := by
        rw [Bool.eq_false_iff]
        intro hc
        simp only [List.any_eq_true, beq_iff_eq, List.mem_take_iff_getElem] at hc
        obtain ⟨x, ⟨j, hj, rfl⟩, e⟩ := hc
        have := (List.getElem_inj h).mp e
        omega
      first
        | (rw [if_neg (by simp [nin])]; rfl)
        | (simp only [nin]; rfl)
        | simp_all
  rw [key _ (Nat.le_refl _), List.take_length]
/-! ### bounds -/
theorem log_lt {a : Int} {k : Nat} (h : a.natAbs < 2 ^ (k + 1)) : a.natAbs.log2 ≤ k := by
  by_cases h0 : a.natAbs = 0
  · rw [h0]; exact Nat.zero_le _
  · have := (Nat.log2_lt h0).mpr h
    omega
theorem log_small {a : Int} (h0 : -(2 ^ 200) < a) (h : a < 2 ^ 200) : a.natAbs.log2 < 200 := by
  have : a.natAbs < 2 ^ (199 + 1) := by
    have : (a.natAbs : Int) < 2 ^ 200 := by omega
    exact_mod_cast this
  have := log_lt this
  omega
theorem fdiv_ok {a b : Int} (h : 0 < b) (h2 : b < 2 ^ 200) : fdivO (.int a) (.int b) = some (.val (.int (a / b))) := by
  have := log_small (by omega) h2
  rw [x_fdiv, if_pos ⟨h, by unfold lgD; omega⟩]
theorem mod_ok {a b : Int} (h : 0 < b) : modO (.int a) (.int b) = some (.val (.int (a % b))) := by
  rw [x_mod, if_pos h]
theorem mul_ok {a b : Int} (h0 : -(2 ^ 200) < a) (h : a < 2 ^ 200) (h1 : -(2 ^ 200) < b) (h2 : b < 2 ^ 200) : mulO (.int a) (.int b) = some (.val (.int (a * b))) := by
  have := log_small h0 h
  have := log_small h1 h2
  rw [x_mul, if_pos (by unfold lgM; omega)]
@[simp] theorem pow_ok {a b : Int} (h0 : -(2 ^ 200) < a) (h : a < 2 ^ 200) (h1 : 0 ≤ b) (h2 : b ≤ 30000) : powO (.int a) (.int b) = some (.val (.int (a ^ b.toNat))) := by
  have := log_small h0 h
  rw [x_pow, if_pos ⟨h1, h2, by unfold lgP; omega⟩]
@[simp] theorem fdiv_lit {a : Int} {k : Nat} (h : 0 < k) (h2 : k < 2 ^ 200) : fdivO (.int a) (.int (no_index (OfNat.ofNat k))) = some (.val (.int (a / (OfNat.ofNat k)))) := fdiv_ok (by
    show (0 : Int) < (k : Int)
    omega) (by
    show (k : Int) < 2 ^ 200
    omega)
@[simp] theorem mod_lit {a : Int} {k : Nat} (h : 0 < k) : modO (.int a) (.int (no_index (OfNat.ofNat k))) = some (.val (.int (a % (OfNat.ofNat k)))) := mod_ok (by
    show (0 : Int) < (k : Int)
    omega)
/-! ### loops and comprehensions over the images of a list -/
theorem loopF_map {α : Type} {b : Bd} {p : DSt → Flow} {f : α → PyData} {l : List α} {s : DSt} (Inv : Nat → DSt → Prop) (h0 : Inv 0 s) (step : ∀ (i : Nat) (a : α) (s : DSt), l[i]? = some a → Inv i s → ∃ s1 s2, b (f a) s = some s1 ∧ p s1 = .next s2 ∧ Inv (i + 1) s2) : ∃ s', loopF b p (l.map f) s = .next s' ∧ Inv l.length s' := by
  have := loopF_inv (b := b) (p := p) (ds := l.map f) Inv h0 fun i d s hd h => by
    rw [List.getElem?_map] at hd
    cases e : l[i]? with
    | none => rw [e] at hd; cases hd
    | some a =>
      rw [e] at hd
      cases hd
      exact step i a s e h
  rw [List.length_map] at this
  exact this
def Nx (x : Flow) (Q : DSt → Prop) : Prop := ∃ s, x = .next s ∧ Q s
@[simp] theorem nx_next {s : DSt} {Q : DSt → Prop} : Nx (.next s) Q ↔ Q s := ⟨fun ⟨_, e, h⟩ => by cases e; exact h, fun h => ⟨s, rfl, h⟩⟩
def bod (b : Bd) (p : DSt → Flow) (d : PyData) (s : DSt) : Flow := match b d s with
  | some s' => p s'
  | none => .stuck
@[simp] theorem x_bod {b : Bd} {p : DSt → Flow} {d : PyData} {s : DSt} : bod b p d s = (match b d s with | some s' => p s' | none => .stuck) := Eq.trans rfl rfl
theorem loopN {α : Type} {b : Bd} {p : DSt → Flow} {f : α → PyData} {l : List α} {s : DSt} (Inv : Nat → DSt → Prop) (h0 : Inv 0 s) (step : ∀ (i : Nat) (a : α) (s : DSt), l[i]? = some a → a ∈ l → Inv i s → Nx (bod b p (f a) s) (Inv (i + 1))) : ∃ s', loopF b p (l.map f) s = .next s' ∧ Inv l.length s' :=
  loopF_map Inv h0 fun i a s hi h => by
    obtain ⟨s2, e, h2⟩ := step i a s hi (List.mem_of_getElem? hi) h
    unfold bod at e
    split at e
    · rename_i s1 e1
      exact ⟨s1, s2, e1, e, h2⟩
    · cases e
theorem take_succ {α : Type} {l : List α} {i : Nat} {a : α} (h : l[i]? = some a) : l.take (i + 1) = l.take i ++ [a] := by
  rw [List.take_add_one, h]
  rfl
theorem range_at {n i a : Nat} (h : (List.range n)[i]? = some a) : a = i ∧ i < n := by
  have hi : i < n := by have := (List.getElem?_eq_some_iff.mp h).1; simpa using this
  simp [hi] at h
  exact ⟨h.symm, hi⟩
theorem loopC_gen {α : Type} {b : Bd} {ft : M Bool} {fe : M R} {vs : List Nat} {s : DSt} {f : α → PyData} (sb : α → DSt) (keep : α → Bool) (g : α → PyData) (hn : noOwn vs s.d = true) : ∀ (l : List α) (acc : List PyData),
    (∀ a ∈ l, b (f a) ⟨blank vs s.d, s.w⟩ = some (sb a)) → (∀ a ∈ l, (⟨putBack vs s.d (sb a).d, (sb a).w⟩ : DSt) = s) → (∀ a ∈ l, ft (sb a) = .ok (keep a) (sb a)) → (∀ a ∈ l, keep a = true → (fe (sb a)).bind fEsc = .ok (.val (g a)) (sb a)) →
    loopC b ft fe vs (l.map f) acc s = .ok (acc ++ (l.filter keep).map g) s
  | [], acc, _, _, _, _ => by simp [loopC]
  | d :: ds, acc, h1, h2, h3, h4 => by
    have ih := fun acc => loopC_gen sb keep g hn ds acc (fun d hd => h1 d (List.mem_cons_of_mem _ hd)) (fun d hd => h2 d (List.mem_cons_of_mem _ hd)) (fun d hd => h3 d (List.mem_cons_of_mem _ hd)) (fun d hd => h4 d (List.mem_cons_of_mem _ hd))
    have e1 := h1 d List.mem_cons_self
    have e2 := h2 d List.mem_cons_self
    have e3 := h3 d List.mem_cons_self
    rw [List.map_cons]
    unfold loopC
    rw [if_pos hn, e1]
    dsimp only
    rw [e3]
    cases k : keep d with
    | false =>
      show loopC b ft fe vs (ds.map f) acc _ = _
      rw [e2, ih]
      simp [k]
    | true =>
      have e4 := h4 d List.mem_cons_self k
      show (nerr (bnd fe fEsc (sb d))).bind _ = _
      rw [bnd_app, e4]
      show loopC b ft fe vs (ds.map f) (acc ++ [g d]) _ = _
      rw [e2, ih]
      simp [k]
theorem lc_gen {α : Type} {fi : M (List PyData)} {b : Bd} {ft : M Bool} {fe : M R} {vs : List Nat} {s s1 : DSt} {f : α → PyData} {l : List α} (sb : α → DSt) (keep : α → Bool) (g : α → PyData) (hi : fi s = .ok (l.map f) s1) (hl : l.length ≤ 100000) (hn : noOwn vs s1.d = true)
    (h1 : ∀ a ∈ l, b (f a) ⟨blank vs s1.d, s1.w⟩ = some (sb a)) (h2 : ∀ a ∈ l, (⟨putBack vs s1.d (sb a).d, (sb a).w⟩ : DSt) = s1) (h3 : ∀ a ∈ l, ft (sb a) = .ok (keep a) (sb a)) (h4 : ∀ a ∈ l, keep a = true → (fe (sb a)).bind fEsc = .ok (.val (g a)) (sb a)) :
    fLc fi b ft fe vs s = .ok (.new ((l.filter keep).map g)) s1 := by
  have hl2 : leS (l.map f).length := by rw [List.length_map]; exact size_le hl
  unfold fLc
  simp only [bnd_app, hi, bind_ok, if_pos hl2]
  rw [loopC_gen sb keep g hn l [] h1 h2 h3 h4]
  simp
theorem lc_all {α : Type} {fi : M (List PyData)} {b : Bd} {fe : M R} {vs : List Nat} {s s1 : DSt} {f : α → PyData} {l : List α} (sb : α → DSt) (g : α → PyData) (hi : fi s = .ok (l.map f) s1) (hl : l.length ≤ 100000) (hn : noOwn vs s1.d = true)
    (h1 : ∀ a ∈ l, b (f a) ⟨blank vs s1.d, s1.w⟩ = some (sb a)) (h2 : ∀ a ∈ l, (⟨putBack vs s1.d (sb a).d, (sb a).w⟩ : DSt) = s1) (h4 : ∀ a ∈ l, (fe (sb a)).bind fEsc = .ok (.val (g a)) (sb a)) :
    fLc fi b fYes fe vs s = .ok (.new (l.map g)) s1 := by
  rw [lc_gen (ft := fYes) sb (fun _ => true) g hi hl hn h1 h2 (fun _ _ => rfl) (fun a ha _ => h4 a ha), List.filter_eq_self.mpr (fun _ _ => rfl)]
/-! ### loops whose states are known -/
end DL

/-! DL18: more pieces: three at once; sorted(set(..)) -/
noncomputable section
namespace DL
open PySem L2 PyProof.Rows
open Evl (Ex)
section
variable {X : Cx} {cl : String → Addr} {W : WX} {e a b c : Expr} {es : List Expr} {f g : M R} {fs : M (List R)} {pos : Pos} {p q : DSt → Flow}
def kPar3 (i j l : Nat) (rs : List R) (s : DSt) : Flow := match rs with
  | [r1, r2, r3] => if i < s.d.length ∧ j < s.d.length ∧ l < s.d.length then .next (putS l (toSl r3) (putS j (toSl r2) (putS i (toSl r1) s))) else .stuck
  | _ => .stuck
@[simp] theorem y_kPar3 (i j l : Nat) (rs : List R) (s : DSt) : kPar3 i j l rs s = (match rs with | [r1, r2, r3] => if i < s.d.length ∧ j < s.d.length ∧ l < s.d.length then .next (putS l (toSl r3) (putS j (toSl r2) (putS i (toSl r1) s))) else .stuck | _ => .stuck) := Eq.trans rfl rfl
def fPar3 (i j l : Nat) (fs : M (List R)) : DSt → Flow := fun s => onRes (fs s) (kPar3 i j l)
@[simp] theorem x_par3 {i j l : Nat} {s : DSt} : fPar3 i j l fs s = onRes (fs s) (kPar3 i j l) := Eq.trans rfl rfl
end
/-! ### loops with a state, that may hand back -/
def foldS {α β : Type} (step : β → α → Sum β R) : β → List α → Sum β R
  | x, [] => .inl x
  | x, a :: l => match step x a with
    | .inl y => foldS step y l
    | .inr r => .inr r
end DL

/-! DL19: e[:0:-1]; list(range(..)); sorted(set(..)) of ints -/
noncomputable section
namespace DL
open PySem L2 PyProof.Rows
open Evl (Ex)
/-! ### e[:0:-1] -/
section
variable {X : Cx} {cl : String → Addr} {W : WX} {e a b c : Expr} {es : List Expr} {f g : M R} {fs : M (List R)} {pos : Pos} {p q : DSt → Flow}
def tRevTo (K : PySem.W.Frag) (te : TE) : TE := fun σ H Q => te σ H fun x H1 => ∃ a xs, x = .ref a ∧ SqL K H1 a xs ∧ ∀ p, H1 p = none → Q (.ref p) (upd H1 p (.lst (xs.drop 1).reverse))
def revToO : PyData → Option R
  | .list ds => some (.new (ds.drop 1).reverse)
  | _ => none
@[simp] theorem x_revTo {ds : List PyData} : revToO (.list ds) = some (.new (ds.drop 1).reverse) := Eq.trans rfl rfl
/-! ### list(range(..)) -/
def rgS (a b : Int) : Prop := RgOk a b
instance (a b : Int) : Decidable (rgS a b) := Classical.propDecidable _
@[simp] theorem rgS_of {a b : Int} (h0 : 0 ≤ a) (h1 : b ≤ 16777216) (h2 : a ≤ 16777216) (h3 : 0 ≤ b) : rgS a b := RgOk.of_le h0 h1 h2 h3
def kLRng (a : Int) (r : R) (s : DSt) : Res R := match look r s with
  | some (.int b) => if rgS a b then .ok (.new (rangeD a (b - a).toNat)) s else .stuck
  | _ => .stuck
@[simp] theorem y_kLRng (a : Int) (r : R) (s : DSt) : kLRng a r s = (match look r s with | some (.int b) => if rgS a b then .ok (.new (rangeD a (b - a).toNat)) s else .stuck | _ => .stuck) := Eq.trans rfl rfl
def fLRng1 (f : M R) : M R := bnd f (kLRng 0)
@[simp] theorem x_lRng1 {f : M R} {s : DSt} : fLRng1 f s = (f s).bind (kLRng 0) := Eq.trans rfl rfl
def kLRng2 (g : M R) (r : R) (s : DSt) : Res R := match look r s with
  | some (.int a) => (g s).bind (kLRng a)
  | _ => .stuck
@[simp] theorem y_kLRng2 (g : M R) (r : R) (s : DSt) : kLRng2 g r s = (match look r s with | some (.int a) => (g s).bind (kLRng a) | _ => .stuck) := Eq.trans rfl rfl
def fLRng2 (f g : M R) : M R := bnd f (kLRng2 g)
@[simp] theorem x_lRng2 {f g : M R} {s : DSt} : fLRng2 f g s = (f s).bind (kLRng2 g) := Eq.trans rfl rfl
end
end DL

/-! DL20: str of data -/
noncomputable section
namespace DL
open PySem L2 PyProof.Rows
open Evl (Ex)
def showOk (d : PyData) : Prop := d.showable = true ∧ d.hasDict = false ∧ d.shown.length ≤ sizeLine ∧ d.depth ≤ 60
instance (d : PyData) : Decidable (showOk d) := Classical.propDecidable _
def lgT (i : Int) : Prop := i.natAbs.log2 < 1920
instance (i : Int) : Decidable (lgT i) := Classical.propDecidable _
def strO (d : PyData) : Option R := match d with
  | .int i => if lgT i then some (.val (.str (Str.ofString (toString i)))) else none
  | .str x => some (.val (.str x))
  | .list ds => if showOk (.list ds) then some (.val (.str (PyData.list ds).shown)) else none
  | .tuple ds => if showOk (.tuple ds) then some (.val (.str (PyData.tuple ds).shown)) else none
  | _ => none
def kStr (r : R) (s : DSt) : Res R := match look r s with
  | some d => (match strO d with
    | some r => .ok r s
    | none => .stuck)
  | none => .stuck
@[simp] theorem y_kStr (r : R) (s : DSt) : kStr r s = (match look r s with | some d => (match strO d with | some r => .ok r s | none => .stuck) | none => .stuck) := Eq.trans rfl rfl
def fStr (f : M R) : M R := bnd f kStr
@[simp] theorem x_str {f : M R} {s : DSt} : fStr f s = (f s).bind kStr := Eq.trans rfl rfl
section
variable {X : Cx} {cl : String → Addr} {W : WX} {e a b c : Expr} {es : List Expr} {f g : M R} {fs : M (List R)} {pos : Pos} {p q : DSt → Flow}
def rStr (K : PySem.W.Frag) : List V → Hp → VK → Prop := fun vs H Q => (∃ i, vs = [.int i] ∧ i.natAbs.log2 < 1920 ∧ Q (.str (Str.ofString (toString i))) H) ∨ (∃ x, vs = [.str x] ∧ Q (.str x) H) ∨
  ∃ a d, vs = [.ref a] ∧ Dp K H (.ref a) d ∧ showOk d ∧ Q (.str d.shown) H
theorem cr_str {k : Nat} (hr : RoomG k X.A) : CallR X (.type "str") (rStr X.K) := by
  intro pins s σ H vs us Q I rv h
  rcases h with ⟨i, rfl, hz, q⟩ | ⟨x, rfl, q⟩ | ⟨a, d, rfl, hd, ⟨h1, h2, h3, h4⟩, q⟩
  · cases rv with
    | cons h t =>
      cases t
      obtain ⟨t, rfl⟩ := h
      exact PySem.P.str_of_int hz ⟨.str _, H, I.tok _, ⟨_, rfl⟩, q⟩
  · cases rv with
    | cons h t =>
      cases t
      obtain ⟨t, rfl⟩ := h
      exact PySem.P.str_of_str ⟨.str _, H, I, ⟨_, rfl⟩, q⟩
  · cases rv with
    | cons h t =>
      cases t
      have h : _ = Value.ref a := h
      subst h
      obtain ⟨as, rd⟩ := Dp.reads I d (.ref a) (.ref a) hd rfl
      exact str_of_reads rd h1 (fun z => by rw [h2] at z; cases z) hr.quiet (by have := hr.units; omega) (fun _ _ z => z) (fun h' u tk hk => ⟨.str _, H, I.kept hk, ⟨_, rfl⟩, q⟩) h3
theorem d_strC {k : Nat} {pn : Pos} (hr : RoomG k X.A) (hg : Gl X "str") (hm : X.mg "str" = none) (ha : DE X cl W a f)
    (na : starEach [a] X.env = (false, eval a X.env) :: starEach [] X.env := by rfl) : DE X cl W (.Call (.Name "str" pn) [a] [] pos) (fStr f) := by
  refine pe_imp (pe_callTy (cr_str hr) hg hm (by decide +kernel) (pa_cons ha pa_nil na) (by decide) (by decide) na rfl) fun σ H Q ⟨G, s, S, q⟩ => ?_
  refine ⟨G, s, S, out_mono (out_bind q) fun x G1 s1 H1 st1 S1 k v rr => ?_⟩
  unfold kStr at k
  split at k
  · rename_i d e1
    have hq := look_q S1 rr e1
    split at k
    · rename_i r' eo
      unfold strO at eo
      split at eo
      · split at eo
        · rename_i hz
          cases eo
          exact .inl ⟨_, by rw [dq_int hq], hz, k G1 H1 Stp.refl S1 _ (.str _)⟩
        · cases eo
      · cases eo
        exact .inr (.inl ⟨_, by rw [dq_str hq], k G1 H1 Stp.refl S1 _ (.str _)⟩)
      · split at eo
        · rename_i hz
          cases eo
          have hp := look_ok S1 rr e1
          have hd := rp_dp _ _ hp
          obtain ⟨p, xs, rfl, _⟩ := dq_lst hq
          exact .inr (.inr ⟨p, _, rfl, hd, hz, k G1 H1 Stp.refl S1 _ (.str _)⟩)
        · cases eo
      · split at eo
        · rename_i hz
          cases eo
          have hp := look_ok S1 rr e1
          have hd := rp_dp _ _ hp
          obtain ⟨p, xs, rfl, _⟩ := dq_tup S1.gh hq
          exact .inr (.inr ⟨p, _, rfl, hd, hz, k G1 H1 Stp.refl S1 _ (.str _)⟩)
        · cases eo
      · cases eo
    · exact k.elim
  · exact k.elim
end
/-! ### how long what is shown is -/
mutual
def wgt : PyData → Nat
  | .list xs | .tuple xs => wgtA xs + 10
  | .str x => 10 * x.length + 100
  | _ => 100
def wgtA : List PyData → Nat
  | [] => 0
  | x :: xs => wgt x + 2 + wgtA xs
end
mutual
def smallD : PyData → Bool
  | .none | .bool _ => true
  | .int i => decide (i.natAbs < 10 ^ 90)
  | .list xs | .tuple xs => smallA xs
  | .str x => x.cps.toList.all fun c => decide (c < 16 ^ 8)
  | _ => false
def smallA : List PyData → Bool
  | [] => true
  | x :: xs => smallD x && smallA xs
end
theorem int_shown {i : Int} (h : i.natAbs < 10 ^ 90) : (Str.ofString (toString i)).length ≤ 91 := by
  rw [ofString_len]
  cases i with
  | ofNat m =>
    have := digits10_le (k := 90) (n := m) (by decide) h
    show (Nat.repr m).length ≤ _
    simp [Nat.repr]
    omega
  | negSucc m =>
    have := digits10_le (k := 90) (n := m + 1) (by decide) h
    show ("-" ++ Nat.repr (m + 1)).length ≤ _
    have h1 : "-".length = 1 := by first | rfl | decide
    simp [Nat.repr, h1]
    omega
theorem listText_le (ts : List Str) : (listText ts).length ≤ piled ts + 4 := by
  unfold listText
  rw [strLen_append]
  have e1 : (("]" : String) : Str).length = 1 := rfl
  have e2 : (("[" : String) : Str).length = 1 := rfl
  rw [e1]
  cases ts with
  | nil => show (("[" : String) : Str).length + 1 ≤ _; rw [e2]; omega
  | cons t ts =>
    show (textFrom (0 + 1) _ ts).length + 1 ≤ _
    rw [textFrom_length_pos _ _ _ (by decide), strLen_append, strLen_append, e2, piled_cons]
    have : (((if 0 > 0 then ", " else "" : String) : Str)).length = 0 := rfl
    omega
theorem tupleText_le (ts : List Str) : (tupleText ts).length ≤ piled ts + 4 := by
  unfold tupleText
  rw [strLen_append, strLen_append]
  have e1 : ((("(" : String) : Str)).length = 1 := rfl
  have e3 : (((if ts.length == 1 then ",)" else ")" : String) : Str)).length ≤ 2 := by split <;> decide
  rw [e1]
  by_cases h : ts = []
  · subst h
    have : (Str.join ", " []).length = 0 := rfl
    omega
  · have := join_length_add ts h
    omega
mutual
theorem shown_le : ∀ d : PyData, smallD d = true → d.shown.length ≤ wgt d ∧ d.showable = true ∧ d.hasDict = false
  | .none, _ => ⟨by show (("None" : String) : Str).length ≤ 100; decide, rfl, rfl⟩
  | .bool b, _ => ⟨by cases b <;> (first | (show (("True" : String) : Str).length ≤ 100; decide) | (show (("False" : String) : Str).length ≤ 100; decide)), rfl, rfl⟩
  | .int i, h => by
    have hi : i.natAbs < 10 ^ 90 := by simpa [smallD] using h
    refine ⟨?_, ?_, rfl⟩
    · have := int_shown hi
      show (Str.ofString (toString i)).length ≤ 100
      omega
    · simp only [PyData.showable, decide_eq_true_eq]
      exact Nat.lt_of_le_of_lt (log_lt (k := 299) (Nat.lt_of_lt_of_le hi (by decide +kernel))) (by decide)
  | .list xs, h => by
    obtain ⟨h1, h2, h3⟩ := shownA_le xs (by simpa [smallD] using h)
    refine ⟨?_, by simpa [PyData.showable] using h2, by simpa [PyData.hasDict] using h3⟩
    have := listText_le (PyData.shownAll xs)
    simp only [PyData.shown, wgt]
    omega
  | .tuple xs, h => by
    obtain ⟨h1, h2, h3⟩ := shownA_le xs (by simpa [smallD] using h)
    refine ⟨?_, by simpa [PyData.showable] using h2, by simpa [PyData.hasDict] using h3⟩
    have := tupleText_le (PyData.shownAll xs)
    simp only [PyData.shown, wgt]
    omega
  | .str x, h => by
    refine ⟨?_, rfl, rfl⟩
    have := PySem.StrLaws.reprText_len x fun c hc => by
      have h : (x.cps.toList.all fun c => decide (c < 16 ^ 8)) = true := h
      exact of_decide_eq_true (List.all_eq_true.mp h c hc)
    show (reprText x).length ≤ 10 * x.length + 100
    omega
  | .dict _, h => by simp [smallD] at h
theorem shownA_le : ∀ xs : List PyData, smallA xs = true → piled (PyData.shownAll xs) ≤ wgtA xs ∧ PyData.showableAll xs = true ∧ PyData.hasDictAll xs = false
  | [], _ => ⟨Nat.le_refl _, rfl, rfl⟩
  | x :: xs, h => by
    simp only [smallA, Bool.and_eq_true] at h
    obtain ⟨a1, a2, a3⟩ := shown_le x h.1
    obtain ⟨b1, b2, b3⟩ := shownA_le xs h.2
    simp only [PyData.shownAll, PyData.showableAll, PyData.hasDictAll, piled_cons, wgtA, a2, a3, b2, b3]
    refine ⟨by omega, rfl, rfl⟩
end
@[simp] theorem wgtA_ints {ns : List Int} : wgtA (ns.map .int) = 102 * ns.length := by
  induction ns with
  | nil => rfl
  | cons a l ih => simp only [List.map_cons, wgtA, wgt, ih, List.length_cons]; omega
@[simp] theorem wgt_list {xs : List PyData} : wgt (.list xs) = wgtA xs + 10 := rfl
@[simp] theorem wgt_tuple {xs : List PyData} : wgt (.tuple xs) = wgtA xs + 10 := rfl
@[simp] theorem wgt_int {i : Int} : wgt (.int i) = 100 := rfl
@[simp] theorem wgtA_nil : wgtA [] = 0 := rfl
@[simp] theorem wgtA_cons {x : PyData} {xs : List PyData} : wgtA (x :: xs) = wgt x + 2 + wgtA xs := rfl
@[simp] theorem small_list {xs : List PyData} : smallD (.list xs) = smallA xs := rfl
@[simp] theorem small_tuple {xs : List PyData} : smallD (.tuple xs) = smallA xs := rfl
@[simp] theorem small_nil : smallA [] = true := rfl
@[simp] theorem small_cons {x : PyData} {xs : List PyData} : smallA (x :: xs) = (smallD x && smallA xs) := rfl
end DL

/-! DL21: a call that only looks: own lists that are handed in stay own -/
noncomputable section
namespace DL
open PySem L2 PyProof.Rows
open Evl (Ex)
def atomD : PyData → Bool
  | .none | .bool _ | .int _ | .str _ => true
  | _ => false
def atomR : R → Bool
  | .val d => atomD d
  | .raw _ => false
  | .ob _ => false
  | .new ds => ds.all atomD
  | .slot _ => false
theorem rp_atom {K : PySem.W.Frag} {G G' : Hp} {v : V} {d : PyData} (h : Rp K G v d) (a : atomD d = true) : Rp K G' v d := by
  cases d <;> simp [atomD] at a <;> cases h
  · exact .non
  · exact .bl _
  · exact .int _
  · exact .str _
theorem rps_atom {K : PySem.W.Frag} {G G' : Hp} : ∀ {ds : List PyData} {vs : List V}, RpAll K G vs ds → ds.all atomD = true → RpAll K G' vs ds
  | [], _, h, _ => by cases h; exact .nil
  | d :: ds, _, h, a => by
    simp at a
    cases h with
    | cons h1 h2 => exact .cons (rp_atom h1 a.1) (rps_atom h2 (by simpa using a.2))
def seen (r : R) (s : DSt) : Option R := match r with
  | .raw v => some (.raw v)
  | .ob o => some (.ob o)
  | r => (look r s).map .val
def seens : List R → DSt → Option (List R)
  | [], _ => some []
  | r :: rs, s => match seen r s, seens rs s with
    | some a, some as => some (a :: as)
    | _, _ => none
def kUserP (F : List R → Pw → FRes) (rs : List R) (s : DSt) : Res R := match seens rs s with
  | some rs' => (match F rs' s.w with
    | .ok r w' => if atomR r = true then .ok r ⟨s.d, w'⟩ else .stuck
    | _ => .stuck)
  | none => .stuck
@[simp] theorem y_kUserP (F : List R → Pw → FRes) (rs : List R) (s : DSt) : kUserP F rs s = (match seens rs s with | some rs' => (match F rs' s.w with | .ok r w' => if atomR r = true then .ok r ⟨s.d, w'⟩ else .stuck | _ => .stuck) | none => .stuck) := Eq.trans rfl rfl
def fUserP (F : List R → Pw → FRes) (fs : M (List R)) : M R := bnd fs (kUserP F)
@[simp] theorem x_userP {F : List R → Pw → FRes} {fs : M (List R)} {s : DSt} : fUserP F fs s = (fs s).bind (kUserP F) := Eq.trans rfl rfl
@[simp] theorem x_seens_nil {s : DSt} : seens [] s = some [] := Eq.trans rfl rfl
@[simp] theorem x_seens_cons {r : R} {rs : List R} {s : DSt} : seens (r :: rs) s = (match seen r s, seens rs s with | some a, some as => some (a :: as) | _, _ => none) := Eq.trans rfl rfl
@[simp] theorem x_seen_raw {v : V} {s : DSt} : seen (.raw v) s = some (.raw v) := Eq.trans rfl rfl
@[simp] theorem x_seen_val {d : PyData} {s : DSt} : seen (.val d) s = some (.val d) := Eq.trans rfl rfl
@[simp] theorem x_seen_new {ds : List PyData} {s : DSt} : seen (.new ds) s = some (.val (.list ds)) := Eq.trans rfl rfl
@[simp] theorem x_seen_slot {i : Nat} {s : DSt} : seen (.slot i) s = (look (.slot i) s).map .val := Eq.trans rfl rfl
@[simp] theorem atomR_new {ds : List PyData} : atomR (.new ds) = ds.all atomD := rfl
@[simp] theorem atomR_val {d : PyData} : atomR (.val d) = atomD d := rfl
@[simp] theorem atomD_int {d : Int} : atomD (.int d) = true := rfl
@[simp] theorem atomD_bool {d : Bool} : atomD (.bool d) = true := rfl
@[simp] theorem atomD_str {d : Str} : atomD (.str d) = true := rfl
@[simp] theorem atomD_none : atomD .none = true := rfl
@[simp] theorem atomD_ints {ns : List Int} : (ns.map PyData.int).all atomD = true := by
  induction ns with
  | nil => rfl
  | cons a l ih => simp [ih]
section
variable {K : PySem.W.Frag} {G H G1 G' H' : Hp} {s : DSt} {σ : L2.St} {w' : Pw}
def allG (w : Pw) (H : Hp) : Hp := fun a => @ite _ (POwn w a) (Classical.propDecidable _) none (H a)
theorem allG_out {w : Pw} {a : Addr} (h : ¬ POwn w a) : allG w H a = H a := by unfold allG; rw [if_neg h]
theorem allG_in {w : Pw} {a : Addr} (h : POwn w a) : allG w H a = none := by unfold allG; rw [if_pos h]
theorem allG_up (S : SA K G s σ H) : Ex G (allG s.w H) := fun a o e => by
  rw [allG_out fun z => by rw [G_pown S.pw z] at e; cases e]
  exact S.gh a o e
theorem allG_ex {w : Pw} : Ex (allG w H) H := fun a o e => by
  by_cases h : POwn w a
  · rw [allG_in h] at e; cases e
  · rwa [allG_out h] at e
theorem allG_pw (S : SA K G s σ H) : PwOk (allG s.w H) s.w H := by
  exact pwok_to S.pw (fun _ _ h _ => h) (fun _ _ h => h) fun a h => allG_in h
theorem look_stp (S : SA K G s σ H) (f : FStp (allG s.w H) s.w H G' w' H') (pw : PwOk G' w' H') : Stp G s σ H G ⟨s.d, w'⟩ σ H' ∧ SA K G ⟨s.d, w'⟩ σ H' := by
  have own : ∀ i a, OwnAt s σ i a → H a ≠ none ∧ ¬ POwn s.w a := fun i a z => ⟨by obtain ⟨xs, e⟩ := S.ownL z; rw [e]; simp, S.pne i a z⟩
  have up : Ex G G' := fun a o e => f.ex a o (allG_up S a o e)
  have gn : ∀ a, G' a = none → G a = none := fun a h => Classical.byContradiction fun z => by
    obtain ⟨o, e⟩ := Option.ne_none_iff_exists'.mp z
    rw [up a o e] at h
    cases h
  refine ⟨⟨Ex.refl G, fun a o h n => ⟨(f.keep a o h fun z => n (.inr z)).1, rfl⟩, fun a z => ?_, f.dom, f.pw⟩, ⟨S.len, fun a o e => f.gh a o (up a o e), fun i sl h => ?_, S.inj, fun i a z => S.ownG i a z, ?_, fun i a z q => ?_⟩⟩
  · rcases z with z | z
    · exact .inl (.inl z)
    · exact (f.own a z).imp .inr id
  · have q := S.slot i sl h
    cases sl with
    | no => trivial
    | val d => exact q
    | raw v => exact q
    | ob o => exact q
    | own es =>
      obtain ⟨a, xs, e, ha, hh⟩ := q
      have e' : σ[i]? = some (some (.ref a)) := by
        cases z : σ[i]? with
        | none => rw [z] at e; cases e
        | some o => rw [z] at e; simp at e; rw [e]
      exact ⟨a, xs, e, (f.keep a _ ha (own i a ⟨⟨es, h⟩, e'⟩).2).1, hh⟩
  · exact pwok_to pw (fun _ _ h _ => h) (fun _ _ h => h) fun a h => gn a (G_pown pw h)
  · rcases f.own a q with q | q
    · exact (own i a z).2 q
    · exact (own i a z).1 q
theorem seen_ar {H0 : Hp} {v : V} {r r' : R} (S : SA K G s σ H) (h : RRel K H0 G s σ H v r) (e : seen r s = some r') : AR K (allG s.w H) v r' := by
  cases r with
  | raw u => cases e; exact h
  | ob o => cases e; exact ob_mono (allG_up S) h
  | val d =>
    cases e
    exact dp_mono (allG_up S) _ _ h
  | new ds =>
    cases e
    obtain ⟨a, xs, rfl, ha, hd, _, _, hn⟩ := h
    exact Rp.lst (by rw [allG_out fun z => hn (.inr z)]; exact ha) (dps_mono (allG_up S) _ _ hd)
  | slot i =>
    have h' : σ[i]? = some (some v) := h
    simp only [x_seen_slot, look] at e
    split at e
    · rename_i ds q
      cases e
      obtain ⟨a, xs, e1, ha, hd⟩ := S.slot i _ q
      rw [h'] at e1
      cases e1
      exact Rp.lst (by rw [allG_out (S.pne i a ⟨⟨_, q⟩, h'⟩)]; exact ha) (dps_mono (allG_up S) _ _ hd)
    · rename_i d q
      cases e
      obtain ⟨u, e1, hd⟩ := S.slot i _ q
      rw [h'] at e1
      cases e1
      exact dp_mono (allG_up S) _ _ hd
    · cases e
theorem seens_ar {H0 : Hp} (S : SA K G s σ H) : ∀ {rs rs' : List R} {vs : List V}, RRels K H0 G s σ H vs rs → seens rs s = some rs' → Paired (AR K (allG s.w H)) vs rs'
  | [], _, _, .nil, e => by cases e; exact .nil
  | r :: rs, _, _, .cons h t, e => by
    simp only [x_seens_cons] at e
    split at e
    · rename_i a as e1 e2
      cases e
      exact .cons (seen_ar S h e1) (seens_ar S t e2)
    · cases e
end
section
variable {X : Cx} {cl : String → Addr} {W : WX} {e : Expr} {es : List Expr} {fs : M (List R)} {pos : Pos}
theorem userP_reads {K : PySem.W.Frag} {F : List R → Pw → FRes} {σ : L2.St} {H : Hp} {Q : VK} (q : tD K cl W (fUserP F fs) σ H Q) : tCallS (spF K cl F) (WE W) (tA K cl W fs) σ H Q := by
  obtain ⟨G, s, S, q⟩ := q
  refine ⟨G, s, S, out_mono (out_bind q) fun rs G1 s1 H1 st1 S1 k vs hv => ?_⟩
  unfold kUserP at k
  split at k
  · rename_i rs' e1
    refine ⟨allG s1.w H1, rs', s1.w, allG_ex, seens_ar S1 hv e1, allG_pw S1, ?_⟩
    cases z : F rs' s1.w with
    | ok r w' =>
      rw [z] at k
      dsimp only at k
      split at k
      · rename_i ha
        intro v G' H' f pw fr
        obtain ⟨st, S'⟩ := look_stp S1 f pw
        refine k G1 H' st S' v ?_
        cases r with
        | val d => exact rp_atom fr ha
        | raw u => simp [atomR] at ha
        | ob u => simp [atomR] at ha
        | slot i => exact fr.elim
        | new ds =>
          obtain ⟨a, xs, e, ha2, hd, hg, h0, hn⟩ := fr
          refine ⟨a, xs, e, ha2, rps_atom hd ha, ?_, Classical.byContradiction fun z => st1.dom a z h0, fun z => ?_⟩
          · refine Classical.byContradiction fun z => ?_
            obtain ⟨o, eo⟩ := Option.ne_none_iff_exists'.mp z
            rw [S1.gh a o eo] at h0
            cases h0
          · rcases z with ⟨i, z⟩ | z
            · obtain ⟨ys, e2⟩ := S1.ownL z
              rw [h0] at e2; cases e2
            · exact hn z
      · exact k.elim
    | err x w' => rw [z] at k; exact k.elim
    | stuck => rw [z] at k; exact k
  · exact k.elim
theorem d_calP {F : List R → Pw → FRes} {k : Nat} {ps : List Str} {x : Str} {p : Pos} (h : Cal X.prog X.w X.K X.mg X.base cl x k ps F) (hr : RoomG k X.A) (hx : ∀ σ, PassesAt (L2.CX X.prog X.w) X σ (WE W σ)) (ha : DA X cl W (e :: es) fs) (hg : Gl X x := by rfl) (hdb : (x == ("__debug__" : Str)) = false := by decide)
    (he : starEach (e :: es) X.env = (false, eval e X.env) :: starEach es X.env := by rfl) (hpl : (backTo pos (starEach es X.env)).any (·.1) = false := by rfl) : DE X cl W (.Call (.Name x p) (e :: es) [] pos) (fUserP F fs) := by
  obtain ⟨f, fd, ok, g, kp, b⟩ := h
  exact pe_imp (pe_callG ok hr hg g kp b hx ha hdb he hpl) fun σ H Q q => userP_reads q
end
end DL

/-! DL22: comprehensions that draw -/
noncomputable section
namespace DL
open PySem L2
end DL

/-! DL23: dicts that are known -/
noncomputable section
namespace DL
open PySem L2 PyProof.Rows
open Evl (Ex)
def keyD : PyData → Option Key
  | .int i => some (.inl i)
  | .str x => some (.inr x)
  | _ => none
def valD {κ : Type} [DecidableEq κ] (kvs : List (κ × PyData)) (k : κ) : Option PyData := (kvs.find? fun kv => decide (kv.1 = k)).map (·.2)
theorem valD_cons {κ : Type} [DecidableEq κ] {k j : κ} {d : PyData} {kvs : List (κ × PyData)} : valD ((k, d) :: kvs) j = if k = j then some d else valD kvs j := by
  unfold valD
  by_cases e : k = j <;> simp [List.find?_cons, e]
def fDictC (kvs : List (Str × Int)) : M R := ret (.ob (.dict (kvs.map fun p => (.inr p.1, .int p.2))))
def kDGet (g : M R) (x : R) (s : DSt) : Res R := match x with
  | .ob (.dict kvs) => (g s).bind fun y s2 => match look y s2 with
    | some d => match keyD d with
      | some k => match valD kvs k with
        | some e => .ok (.val e) s2
        | none => .stuck
      | none => .stuck
    | none => .stuck
  | _ => .stuck
def fDGet (f g : M R) : M R := bnd f (kDGet g)
def kDIn (neg : Bool) (y x : R) (s : DSt) : Res R := match look y s, x with
  | some d, .ob (.dict kvs) => match keyD d with
    | some k => .ok (.val (.bool (if neg then !(valD kvs k).isSome else (valD kvs k).isSome))) s
    | none => .stuck
  | _, _ => .stuck
def fDIn (neg : Bool) (f g : M R) : M R := bnd f fun y => bnd g fun x => kDIn neg y x
section
variable {X : Cx} {cl : String → Addr} {W : WX} {e a b : Expr} {f g : M R} {pos : Pos}
end
/-! ### a < b < c -/
def kChain3 (o' : R → R → M R) (h : M R) (y : R) (z : R) (s : DSt) : Res R := match look z s with
  | some (.bool true) => (h s).bind fun w => o' y w
  | some (.bool false) => .ok (.val (.bool false)) s
  | _ => .stuck
def kChain2 (o o' : R → R → M R) (h : M R) (x : R) (y : R) (s : DSt) : Res R := (o x y s).bind (kChain3 o' h y)
def kChain1 (o o' : R → R → M R) (g h : M R) (x : R) (s : DSt) : Res R := (g s).bind (kChain2 o o' h x)
def fChain (o o' : R → R → M R) (f g h : M R) : M R := bnd f (kChain1 o o' g h)
section
variable {X : Cx} {cl : String → Addr} {W : WX} {e a b c : Expr} {f g h : M R} {pos : Pos}
end
section
variable {s : DSt} {f g : M R} {kvs : List (Key × PyData)} {x y : R} {d : PyData} {z : Str} {i : Int}
@[simp] theorem x_dictC {ws : List (Str × Int)} : fDictC ws s = .ok (.ob (.dict (ws.map fun p => (.inr p.1, .int p.2)))) s := Eq.trans rfl rfl
def kDGet2 (kvs : List (Key × PyData)) (y : R) (s2 : DSt) : Res R := match look y s2 with
    | some d => match keyD d with
      | some k => match valD kvs k with
        | some e => .ok (.val e) s2
        | none => .stuck
      | none => .stuck
    | none => .stuck
@[simp] theorem y_kDGet2 {s2 : DSt} : kDGet2 kvs y s2 = (match look y s2 with
    | some d => match keyD d with
      | some k => match valD kvs k with
        | some e => .ok (.val e) s2
        | none => .stuck
      | none => .stuck
    | none => .stuck) := Eq.trans rfl rfl
@[simp] theorem y_kDGet : kDGet g (.ob (.dict kvs)) s = (g s).bind (kDGet2 kvs) := Eq.trans rfl rfl
@[simp] theorem x_dget : fDGet f g s = (f s).bind (kDGet g) := Eq.trans rfl rfl
@[simp] theorem x_chain {o o' : R → R → M R} {h : M R} : fChain o o' f g h s = (f s).bind (kChain1 o o' g h) := Eq.trans rfl rfl
@[simp] theorem y_kChain1 {o o' : R → R → M R} {h : M R} : kChain1 o o' g h x s = (g s).bind (kChain2 o o' h x) := Eq.trans rfl rfl
@[simp] theorem y_kChain2 {o o' : R → R → M R} {h : M R} : kChain2 o o' h x y s = (o x y s).bind (kChain3 o' h y) := Eq.trans rfl rfl
def kChain4 (o' : R → R → M R) (y w : R) (s : DSt) : Res R := o' y w s
@[simp] theorem y_kChain4 {o' : R → R → M R} : kChain4 o' x y s = o' x y s := Eq.trans rfl rfl
@[simp] theorem y_kChain3 {o' : R → R → M R} {h : M R} {z : Bool} : kChain3 o' h y (.val (.bool z)) s = if z = true then (h s).bind (kChain4 o' y) else .ok (.val (.bool false)) s := by cases z <;> rfl
def kDIn1 (neg : Bool) (g : M R) (y : R) (s : DSt) : Res R := (g s).bind (kDIn neg y)
@[simp] theorem y_kDIn1 {neg : Bool} : kDIn1 neg g y s = (g s).bind (kDIn neg y) := Eq.trans rfl rfl
@[simp] theorem y_kDIn {neg : Bool} : kDIn neg y (.ob (.dict kvs)) s = (match look y s with
  | some d => match keyD d with
    | some k => .ok (.val (.bool (if neg then !(valD kvs k).isSome else (valD kvs k).isSome))) s
    | none => .stuck
  | none => .stuck) := by
  unfold kDIn
  cases look y s <;> rfl
@[simp] theorem x_dIn {neg : Bool} : fDIn neg f g s = (f s).bind (kDIn1 neg g) := Eq.trans rfl rfl
@[simp] theorem x_keyI : keyD (.int i) = some (.inl i) := Eq.trans rfl rfl
@[simp] theorem x_keyS : keyD (.str z) = some (.inr z) := Eq.trans rfl rfl
@[simp] theorem x_valD_nil {k : Key} : valD [] k = none := Eq.trans rfl rfl
@[simp] theorem x_valD_cons {k j : Key} : valD ((k, d) :: kvs) j = if k = j then some d else valD kvs j := valD_cons
end
end DL

/-! DL24: errors raised, caught and kept -/
noncomputable section
namespace DL
open PySem L2 PyProof.Rows PySem.Spec
open Evl (Ex)
/-! ### raise -/
def fRaise (n : String) : DSt → Flow := fun s => .err ⟨n, none⟩ s
section
variable {X : Cx} {cl : String → Addr} {W : WX} {pos : Pos}
end
/-! ### what is caught is kept: it is a thing of the heap from then on -/
section
variable {X : Cx} {pins : List (Addr × Obj)} {σ : L2.St} {H : Hp} {s sI : Shared} {a : Addr} {cls : Value} {d : Option Addr}
theorem exc_ok {P : Program} {w : World} {h : Heap} {oe : Obj} (e : h.get? a = some oe) (z : Zc cls d oe) (hv : ∃ vs, oe.data = .fields vs) : ObjOk P w H h a (excO a cls d) :=
  ⟨⟨oe, e, z, hv⟩, ⟨oe, e⟩, fun h1 h2 ⟨o, e1, z1, v1⟩ k => ⟨o, k o e1, z1, v1⟩⟩
theorem inv_more {φ : Heap → Prop} (I : Inv X pins σ H s) (n0 : X.s_0.heap.get? a = none) (hn : H a = none) (new : ∀ H', ObjOk X.prog X.w H' s.heap a (.ext φ)) (hp : ∀ p ∈ X.pn ++ pins, p.1 ≠ a) (nL : a ≠ X.env.locals)
    (nC : ∀ x c, X.env.cells.lookup x = some c → c ≠ a) : Inv X pins σ (upd H a (.ext φ)) s := by
  have ne0 : ∀ b o, X.s_0.heap.get? b = some o → b ≠ a := fun b o e z => by rw [z, n0] at e; cases e
  have neH : ∀ b o, H b = some o → b ≠ a := fun b o e z => by rw [z, hn] at e; cases e
  refine ⟨I.ok, I.os, I.bare, ⟨I.base.keep, I.base.slot, fun b o e z x => ?_, I.base.there, fun b xs e => ?_, fun b o u e => ?_, fun b ps e => ?_⟩, I.loc, I.cell, ?_, fun x c e => ?_, fun p hm => ?_, I.hok.laidN (fun _ _ q => q) hn (new _), I.len⟩
  · rw [upd_ne (ne0 b o e)]; exact I.base.free b o e z x
  · have := I.base.tups b xs e
    rw [upd_ne (neH _ _ this)]; exact this
  · have := I.base.frzs b o u e
    rw [upd_ne (neH _ _ this)]; exact this
  · obtain ⟨more, q⟩ := I.base.tbls b ps e
    exact ⟨more, by rw [upd_ne (neH _ _ q)]; exact q⟩
  · rw [upd_ne nL.symm]; exact I.free
  · rw [upd_ne (nC x c e)]; exact I.freeC x c e
  · obtain ⟨h1, h2, h3⟩ := I.pin p hm
    exact ⟨h1, by rw [upd_ne (hp p hm)]; exact h2, h3⟩
end
def wKeep (K : PySem.W.Frag) (c : Value) (i j : Nat) (Wout : WX) (D : Ends) : WX := fun cls d σ H =>
  ∃ b, PySem.W.exmOne K cls c = some b ∧ (b = true → ∀ a, H a = none → i < σ.length ∧ D.nx (((σ.set i (some (.ref a))).set j (some (.ref a))).set i none) (upd H a (excO a cls d))) ∧ (b = false → Wout cls d σ H)
section
variable {X : Cx} {x n : Str} {c : Value} {i j : Nat} {body suite : List Stmt} {b₀ : Stmt} {np pos pos' : Pos} {tb : WX → TS} {Wout : WX}
theorem try_keep (hs : X.stack = X.env :: X.outer) (hf : X.env.frame = some X.env.locals) (hx : X.ex = []) (hN : X.N.Nodup) (hi : X.N[i]? = some n) (hln : X.env.kindOf n = some .local) (hc : Names X x c) (tk : Takes X Wout)
    (hb : ∀ (W : WX) (pn : List (Addr × Obj)) (xe : Value → Shared → Prop), Takes (X.tr pn xe) W → PassesOwn (model X.prog X.w) X.A X.env xe → PSs (X.tr pn xe) body (tb W))
    (hsu : ∀ (a : Addr) (oe : Obj) (pn : List (Addr × Obj)), PSs (X.suite a ((a, oe) :: pn)) (b₀ :: suite) (tAsg (tVar i) (gName j))) :
    PS X (.Try body [.ExceptHandler (some (.Name x np)) (some n) (b₀ :: suite) pos'] [] [] pos) (fun D σ H => tb (wKeep X.K c i j Wout D) D σ H) := by
  refine ⟨fun pins s σ H D I h => ?_⟩
  have ok := I.ok
  have hfr : X.A.frames = some (X.env :: X.outer) := by rw [ok.frames, hs]
  have hloc : Loc X.env.scope n := .inl hln
  refine wpAny_Try_except ?_
  refine wpAny_mono ((hb (wKeep X.K c i j Wout D) (X.pn ++ pins) (fun e s₁ => wpAny (model X.prog X.w) X.A (noteFrame e X.env) (fun _ s₂ => wpAny (model X.prog X.w) X.A (setFlight e none) (fun _ s₃ =>
    wpAny (model X.prog X.w) X.A (handleBy e X.env [.ExceptHandler (some (.Name x np)) (some n) (b₀ :: suite) pos']) (SP X pins D) X.xe s₃) X.xe s₂) X.xe s₁) (fun u s' xx => ?_) PassesOwn.looking).run [] s σ H D (I.toTry _) h) (fun f s1 hsp => ?_) (fun e s1 he => he)
  · obtain ⟨a, B, sI, pins', σ', H', cls, d, rfl, J', nb, up, sky, na, os, ag, b, hb1, hyes, hno⟩ := xx
    have J : Inv X pins σ' H' sI := J'.ofTry ok
    have sky' : Sky B (X.env :: X.outer) a (Zc cls d) X.env.locals s'.heap := by rw [← hs]; exact sky
    show wpAny _ X.A (noteFrame (.ref a) X.env) _ _ _
    refine Sky.land Zc.steady hfr hf sky' fun h3 fl3 up3 => ?_
    have J3 : Inv X pins σ' H' { s' with heap := h3 } := J.landed nb fl3.1 (up.trans up3) os ag
    obtain ⟨oe3, vs3, he3, hz3, hd3⟩ := fl3.there
    have nfr : a ∉ frs (X.env :: X.outer) := fun hm => by
      obtain ⟨_, o', e', hnf⟩ := fl3.2.2.1.mem hm
      rw [he3] at e'; cases e'
      exact hnf _ hd3
    have nL : a ≠ X.env.locals := fun z => nfr (List.mem_filterMap.mpr ⟨X.env, List.mem_cons_self, by rw [hf, z]⟩)
    have nF : a ∉ X.fs := fun hm => by
      obtain ⟨e, he, q⟩ := List.mem_filterMap.mp hm
      exact nfr (List.mem_filterMap.mpr ⟨e, List.mem_cons_of_mem _ he, q⟩)
    -- the exception is no thing of the state without it
    have nI : sI.heap.get? a = none := by
      cases e : sI.heap.get? a with
      | none => rfl
      | some o =>
        have z := nb a o e (by rw [hs]; exact nfr)
        rw [fl3.2.1] at z; cases z
    have n0 : X.s_0.heap.get? a = none := by
      cases e : X.s_0.heap.get? a with
      | none => rfl
      | some o =>
        obtain ⟨o', z⟩ := J.base.there a o e (by rw [hx]; exact fun z => nomatch z)
        rw [nI] at z; cases z
    have npin : ∀ p ∈ X.pn ++ pins, p.1 ≠ a := fun p hp z => by
      have := (J.pin p hp).1
      rw [z, nI] at this; cases this
    have ncell : ∀ y k, X.env.cells.lookup y = some k → k ≠ a := fun y k e z => by
      obtain ⟨v, q⟩ := J.cell y k e
      obtain ⟨o, q, _⟩ := q
      rw [z, nI] at q; cases q
    have S3 := J3.suite he3 hd3 na nL nF
    refine wpAny_handleBy_cons (codeAny_handlers_test ?_) (by intro q; cases q)
    have LT : PySem.W.Looks (model X.prog X.w) h3 (typeOf (.ref a)) cls := fun A Q E s k q => wpAny_typeOf_ref (k _ _ he3) (by rw [hz3.1]; exact q)
    have LM := PySem.W.exm_one (M := model X.prog X.w) (J3.kIn) LT hb1
    have test : ∀ {Q : Value → Shared → Prop} {E : Value → Shared → Prop}, Q c { s' with heap := h3 } → wpAny (model X.prog X.w) (X.A.mark (some (.ref a))) (eval (.Name x np) X.env) Q E { s' with heap := h3 } := fun {Q E} q => by
      obtain ⟨hg, hdbg, hm | ⟨hm, hv, hnn⟩⟩ := hc
      · exact ld_glob (X := X.suite a ((a, oe3) :: (X.pn ++ pins))) S3 hg hm q hdbg
      · exact ld_blt (X := X.suite a ((a, oe3) :: (X.pn ++ pins))) S3 hg hm hv q hnn hdbg
    refine test (LM.here ?_)
    cases b with
    | true =>
      refine codeAny_handlers_suite_as ?_
      refine HandSPX.lands_againZ fl3 fun h4 fl4 up4 => ?_
      have J4 : Inv X pins σ' H' { s' with heap := h4 } := J.landed nb fl4.1 ((up.trans up3).trans up4) os ag
      obtain ⟨oe4, vs4, he4, hz4, hd4⟩ := fl4.there
      have S4 := J4.suite he4 hd4 na nL nF
      obtain ⟨il, hnx⟩ := hyes rfl a na
      refine store_ok (X := X.suite a ((a, oe4) :: (X.pn ++ pins))) (v := .ref a) S4 hN hi hloc rfl (fun s5 S5 => ?_) (.inr hln)
      refine wpAny_mono ((hsu a oe4 (X.pn ++ pins)).run [] s5 _ H' { nx := fun σ6 H6 => σ6 = (σ'.set i (some (.ref a))).set j (some (.ref a)) ∧ H6 = H', rt := fun _ _ => False, bk := fun _ _ => False, ct := fun _ _ => False } S5
        ⟨.ref a, List.getElem?_set_self il, rfl, rfl⟩) (fun f s6 hsp => ?_) (fun _ _ z => False.elim z)
      cases f with
      | next =>
        obtain ⟨σ6, H6, S6, rfl, rfl⟩ := hsp
        have P6 := (S6.pin (a, oe4) (List.mem_append_left _ List.mem_cons_self)).1
        have M6 : Inv X pins _ (upd H6 a (excO a cls d)) s6 := inv_more (S6.unsuite ok) n0 na (fun _ => exc_ok P6 hz4 ⟨_, hd4⟩) npin nL ncell
        exact gone_ok M6 hN hi hln fun s7 J7 => ⟨_, _, J7, hnx⟩
      | brk => obtain ⟨_, _, _, z⟩ := hsp; exact z.elim
      | cont => obtain ⟨_, _, _, z⟩ := hsp; exact z.elim
      | ret u => obtain ⟨_, _, _, _, _, z⟩ := hsp; exact z.elim
    | false =>
      show wpAny _ X.A (handleBy (.ref a) X.env []) _ _ _
      refine wpAny_handleBy_nil ?_
      obtain ⟨k1, k2, k3, oe, vs, T, oT, ts', he, hz, hd, h1, hr⟩ := id fl3
      unfold PySem.passOn
      refine wpAny_bind (wpAny_field he hd h1 ?_)
      rw [if_neg (show ¬ ((Value.ref T == Value.none) = true) from by simp)]
      have fin : wpAny (model X.prog X.w) X.A (setFlight (.ref a) X.env.frame) (fun _ s4 => wpAny (model X.prog X.w) X.A (throw (.ref a) : Sem PySem.Flow) (SP X pins D) X.xe s4) X.xe { s' with heap := h3 } := by
        rw [hf]
        refine HandSPX.setFlight_upZ fl3 fun h4 hh4 up4 => wpAny_throw (tk _ _ ?_)
        exact ⟨a, B, sI, pins, σ', H', cls, d, rfl, J, nb, (up.trans up3).trans up4, .inr (.inr (by rw [hs]; exact hh4)), na, os, ag, hno rfl⟩
      first
        | exact wpAny_bind (wpAny_pure (wpAny_bind fin))
        | exact wpAny_bind fin
  · cases f with
    | next =>
      obtain ⟨σ', H', J', q⟩ := hsp
      exact wpAny_execs_nil ⟨σ', H', J'.ofTry ok, q⟩
    | brk =>
      obtain ⟨σ', H', J', q⟩ := hsp
      exact ⟨σ', H', J'.ofTry ok, q⟩
    | cont =>
      obtain ⟨σ', H', J', q⟩ := hsp
      exact ⟨σ', H', J'.ofTry ok, q⟩
    | ret u =>
      obtain ⟨v, σ', H', J', r, q⟩ := hsp
      exact ⟨v, σ', H', J'.ofTry ok, r, q⟩
end
/-! ### try: .. except FolkError as e: caught = e -/
def isCaught (ns : List String) (x : Exn) : Bool := ns.contains x.name && (match x.arg with | none => true | some _ => false)
def fTry (ns : List String) (i j : Nat) (p : DSt → Flow) : DSt → Flow := fun s => match p s with
  | .err x s' => if isCaught ns x = true ∧ i < s'.d.length ∧ j < s'.d.length ∧ i ≠ j then .next (putS i .no (putS j (.ob (.exc x)) s')) else .stuck
  | fl => fl
section
variable {K : PySem.W.Frag} {G H G0 H0 : Hp} {s s0 : DSt} {σ σ0 : L2.St}
theorem own_no {i j : Nat} {v : Option V} {a : Addr} (hi : i < s.d.length) : OwnAt (putS i .no s) (σ.set i v) j a → j ≠ i ∧ OwnAt s σ j a := by
  rintro ⟨⟨ds, e⟩, h⟩
  by_cases q : j = i
  · subst q
    unfold putS at e
    simp only [List.getElem?_set_self hi] at e
    cases e
  · unfold putS at e
    simp only [List.getElem?_set_ne (Ne.symm q)] at e
    rw [List.getElem?_set_ne (Ne.symm q)] at h
    exact ⟨q, ⟨ds, e⟩, h⟩
theorem no_ok {i : Nat} {v : Option V} (S : SA K G s σ H) (hi : i < s.d.length) : SA K G (putS i .no s) (σ.set i v) H := by
  refine ⟨by simp [putS, S.len], S.gh, fun j sl h => ?_, fun j k a h1 h2 => S.inj j k a (own_no hi h1).2 (own_no hi h2).2, fun j a h => S.ownG j a (own_no hi h).2, S.pw, fun j a h => S.pne j a (own_no hi h).2⟩
  by_cases q : j = i
  · subst q
    simp only [putS, List.getElem?_set_self hi] at h
    cases h
    trivial
  · simp only [putS, List.getElem?_set_ne (Ne.symm q)] at h
    rw [List.getElem?_set_ne (Ne.symm q)]
    exact S.slot j sl h
theorem no_stp {i : Nat} {v : Option V} (st : Stp G0 s0 σ0 H0 G s σ H) (hi : i < s.d.length) : Stp G0 s0 σ0 H0 G (putS i .no s) (σ.set i v) H := by
  refine ⟨st.ex, st.keep, fun a z => ?_, st.dom, st.pw⟩
  rcases z with ⟨j, z⟩ | z
  · exact st.own a (.inl ⟨j, (own_no hi z).2⟩)
  · exact st.own a (.inr z)
end
theorem set_thrice {σ : L2.St} {i j : Nat} {u v : Option V} (h : i ≠ j) : ((σ.set i u).set j v).set i none = (σ.set j v).set i none := by
  apply List.ext_getElem?
  intro k
  by_cases q : k = i
  · subst q
    simp [List.getElem?_set]
  · simp [List.getElem?_set_ne (Ne.symm q)]
    by_cases q2 : k = j
    · subst q2; simp [List.getElem?_set]
    · simp [List.getElem?_set_ne (Ne.symm q2), List.getElem?_set_ne (Ne.symm q)]
section
variable {X : Cx} {cl : String → Addr} {W : WX} {x n : Str} {C : Addr} {i j : Nat} {body suite : List Stmt} {b₀ : Stmt} {np pos pos' : Pos} {p : DSt → Flow}
end
/-! ### isinstance of what was caught -/
def rIsX (K : PySem.W.Frag) : List V → Hp → VK → Prop := fun xs H Q => ∃ (a D : Addr) (c : V) (cv : Value) (b : Bool), xs = [.ref a, c] ∧ H a = some (excO a (.ref D) none) ∧ ExcC K D ∧ ClsV c cv ∧ PySem.W.kitOne K (.ref D) cv = some b ∧ Q (.bl b) H
structure ExF (K : PySem.W.Frag) (mg : Str → Option Value) (n : String) : Prop where
  g : mg (Str.ofString n) = some (.ref (clOf K n))
  x : PySem.W.excIn K (clOf K n) [.type "ValueError", .type "Exception", .type "BaseException", .type "object"] "ValueError.__new__" = true
  kp : PySem.W.keepIn K (.ref (clOf K n)) = true
  b : PySem.W.subIn K (.ref (clOf K n)) (.type "BaseException") = some true
  ty : PySem.W.typeIn K (.ref (clOf K n)) = some (.type "type")
  c : ExcC K (clOf K n)
  v : PySem.W.subIn K (.ref (clOf K n)) (.type "ValueError") = some true
structure ExFs (K : PySem.W.Frag) (mg : Str → Option Value) (ns : List String) : Prop where
  each : ∀ n ∈ ns, ExF K mg n
  top : ∀ n ∈ ns, PySem.W.exmOne K (.ref (clOf K n)) (.ref (clOf K "FolkError")) = some true
  two : ∀ n ∈ ns, ∀ m ∈ ns, PySem.W.kitOne K (.ref (clOf K n)) (.ref (clOf K m)) = some (n == m)
  gF : mg "FolkError" = some (.ref (clOf K "FolkError"))
def fIsX (ns : List String) (m : String) (f : M R) : M R := bnd f fun r s => match r with
  | .ob (.exc ⟨n, none⟩) => if n ∈ ns ∧ m ∈ ns then .ok (.val (.bool (n == m))) s else .stuck
  | _ => .stuck
def fIsV (ns : List String) (f : M R) : M R := bnd f fun r s => match r with
  | .ob (.exc ⟨n, none⟩) => if n ∈ ns then .ok (.val (.bool true)) s else .stuck
  | _ => .stuck
section
variable {X : Cx} {cl : String → Addr} {W : WX} {e : Expr} {f : M R} {pos : Pos}
theorem kit_V {K : PySem.W.Frag} {D : Addr} (h : PySem.W.subIn K (.ref D) (.type "ValueError") = some true) : PySem.W.kitOne K (.ref D) (.type "ValueError") = some true := by
  unfold PySem.W.kitOne
  rw [if_neg (by intro z; have := beq_iff_eq.mp z; cases this)]
  show (if PySem.W.kitMeta "ValueError" = true then PySem.W.subIn K (.ref D) (.type "ValueError") else none) = _
  rw [if_pos (by decide +kernel)]
  exact h
end
section
variable {s : DSt} {f : M R} {p : DSt → Flow}
@[simp] theorem x_raise {n : String} : fRaise n s = .err ⟨n, none⟩ s := Eq.trans rfl rfl
def kTry (ns : List String) (i j : Nat) (fl : Flow) : Flow := match fl with
  | .err x s' => if isCaught ns x = true ∧ i < s'.d.length ∧ j < s'.d.length ∧ i ≠ j then .next (putS i .no (putS j (.ob (.exc x)) s')) else .stuck
  | fl => fl
@[simp] theorem x_try {ns : List String} {i j : Nat} : fTry ns i j p s = kTry ns i j (p s) := by
  unfold fTry kTry
  cases p s <;> rfl
@[simp] theorem y_kTry_next {ns : List String} {i j : Nat} : kTry ns i j (.next s) = .next s := Eq.trans rfl rfl
@[simp] theorem y_kTry_ret {ns : List String} {i j : Nat} {r : R} : kTry ns i j (.ret r s) = .ret r s := Eq.trans rfl rfl
@[simp] theorem y_kTry_err {ns : List String} {i j : Nat} {n : String} : kTry ns i j (.err ⟨n, none⟩ s) = if n ∈ ns ∧ i < s.d.length ∧ j < s.d.length ∧ i ≠ j then .next (putS i .no (putS j (.ob (.exc ⟨n, none⟩)) s)) else .stuck := by
  show (if isCaught ns ⟨n, none⟩ = true ∧ _ then _ else _) = _
  have : isCaught ns ⟨n, none⟩ = true ↔ n ∈ ns := by simp [isCaught]
  simp only [this]
def kIsX (ns : List String) (m : String) (r : R) (s : DSt) : Res R := match r with
  | .ob (.exc ⟨n, none⟩) => if n ∈ ns ∧ m ∈ ns then .ok (.val (.bool (n == m))) s else .stuck
  | _ => .stuck
@[simp] theorem y_kIsX {ns : List String} {n m : String} : kIsX ns m (.ob (.exc ⟨n, none⟩)) s = if n ∈ ns ∧ m ∈ ns then .ok (.val (.bool (n == m))) s else .stuck := Eq.trans rfl rfl
@[simp] theorem x_isX {ns : List String} {m : String} : fIsX ns m f s = (f s).bind (kIsX ns m) := Eq.trans rfl rfl
def kIsV (ns : List String) (r : R) (s : DSt) : Res R := match r with
  | .ob (.exc ⟨n, none⟩) => if n ∈ ns then .ok (.val (.bool true)) s else .stuck
  | _ => .stuck
@[simp] theorem y_kIsV {ns : List String} {n : String} : kIsV ns (.ob (.exc ⟨n, none⟩)) s = if n ∈ ns then .ok (.val (.bool true)) s else .stuck := Eq.trans rfl rfl
@[simp] theorem x_isV {ns : List String} : fIsV ns f s = (f s).bind (kIsV ns) := Eq.trans rfl rfl
end
/-! ### the facts of the classes, from the written part -/
section
variable {K : PySem.W.Frag} {h : Heap} {mg : Str → Option Value} {n m : String} {C D : Addr}
theorem top_mk (a : PySem.W.nsIn K mainGlobals (Str.ofString n) = some (some (.ref C))) (aF : PySem.W.nsIn K mainGlobals "FolkError" = some (some (.ref D))) (b : PySem.W.subIn K (.ref D) (.type "BaseException") = some true) (hd : PySem.W.hasDictIn K D = true)
    (ty : PySem.W.typeIn K (.ref D) = some (.type "type")) (s : PySem.W.subIn K (.ref C) (.ref D) = some true) : PySem.W.exmOne K (.ref (clOf K n)) (.ref (clOf K "FolkError")) = some true := by
  have eF : clOf K "FolkError" = D := clOf_of aF
  rw [clOf_of a, eF]
  exact PySem.W.exm_ref b hd ty s
theorem two_eq : PySem.W.kitOne K (.ref (clOf K n)) (.ref (clOf K n)) = some (n == n) := by
  unfold PySem.W.kitOne
  rw [if_pos (by simp)]
  simp
theorem mgF_mk (X : PySem.W.Frag.In K h) (G : h.Ns mainGlobals mg) (a : PySem.W.nsIn K mainGlobals "FolkError" = some (some (.ref C))) : mg "FolkError" = some (.ref (clOf K "FolkError")) := by
  have g := PySem.W.mg_of X G a
  have e : clOf K "FolkError" = C := clOf_of a
  subst e
  exact g
end
end DL

/-! DL25: the script, bits, a law without a purse -/
noncomputable section
namespace DL
open PySem L2 PyProof.Rows
open Evl (Ex)
def kScLen (x : R) (s : DSt) : Res R := match x with
  | .ob (.scr ns) => .ok (.val (.int ns.length)) s
  | _ => .stuck
def fScLen (f : M R) : M R := bnd f kScLen
def kScIx (g : M R) (x : R) (s : DSt) : Res R := match x with
  | .ob (.scr ns) => (g s).bind fun y s2 => match look y s2 with
    | some (.int n) => match atI ns n with
      | some z => .ok (.val (.int z)) s2
      | none => .stuck
    | _ => .stuck
  | _ => .stuck
def fScIx (f g : M R) : M R := bnd f (kScIx g)
def andO : PyData → PyData → Option R
  | .int i, .int j => some (.val (.int (Builtin.bitAnd i j)))
  | _, _ => none
section
variable {X : Cx} {cl : String → Addr} {W : WX} {a b x e : Expr} {f g : M R} {pos : Pos}
@[simp] theorem x_scLen {s : DSt} : fScLen f s = (f s).bind kScLen := Eq.trans rfl rfl
@[simp] theorem x_kScLen {ns : List Int} {s : DSt} : kScLen (.ob (.scr ns)) s = .ok (.val (.int ns.length)) s := Eq.trans rfl rfl
@[simp] theorem x_scIx {s : DSt} : fScIx f g s = (f s).bind (kScIx g) := Eq.trans rfl rfl
def kScIx2 (ns : List Int) (y : R) (s2 : DSt) : Res R := match look y s2 with
    | some (.int n) => match atI ns n with
      | some z => .ok (.val (.int z)) s2
      | none => .stuck
    | _ => .stuck
@[simp] theorem x_kScIx {ns : List Int} {s : DSt} : kScIx g (.ob (.scr ns)) s = (g s).bind (kScIx2 ns) := Eq.trans rfl rfl
@[simp] theorem x_kScIx2 {ns : List Int} {i : Int} {s : DSt} : kScIx2 ns (.val (.int i)) s = (match atI ns i with | some z => .ok (.val (.int z)) s | none => .stuck) := Eq.trans rfl rfl
@[simp] theorem x_bitAnd {i j : Int} : andO (.int i) (.int j) = some (.val (.int (Builtin.bitAnd i j))) := Eq.trans rfl rfl
end
/-! ### classes that nothing of the law raises -/
structure ExY (K : PySem.W.Frag) (mg : Str → Option Value) (ns : List String) (m : String) : Prop where
  g : mg (Str.ofString m) = some (.ref (clOf K m))
  two : ∀ n ∈ ns, PySem.W.kitOne K (.ref (clOf K n)) (.ref (clOf K m)) = some false
def kIsY (ns : List String) (m : String) (r : R) (s : DSt) : Res R := match r with
  | .ob (.exc ⟨n, none⟩) => if n ∈ ns then .ok (.val (.bool false)) s else .stuck
  | _ => .stuck
def fIsY (ns : List String) (m : String) (f : M R) : M R := bnd f (kIsY ns m)
@[simp] theorem x_isY {ns : List String} {m : String} {f : M R} {s : DSt} : fIsY ns m f s = (f s).bind (kIsY ns m) := Eq.trans rfl rfl
@[simp] theorem y_kIsY {ns : List String} {n m : String} {s : DSt} : kIsY ns m (.ob (.exc ⟨n, none⟩)) s = if n ∈ ns then .ok (.val (.bool false)) s else .stuck := Eq.trans rfl rfl
theorem two2_mk {K : PySem.W.Frag} {n m : String} {C D : Addr} (a : PySem.W.nsIn K mainGlobals (Str.ofString n) = some (some (.ref C))) (a2 : PySem.W.nsIn K mainGlobals (Str.ofString m) = some (some (.ref D))) (s : PySem.W.subIn K (.ref C) (.ref D) = some false) (s2 : PySem.W.subIn K (.ref C) (.ref C) = some true)
    (hd : PySem.W.hasDictIn K D = true) (ty : PySem.W.typeIn K (.ref D) = some (.type "type")) : PySem.W.kitOne K (.ref (clOf K n)) (.ref (clOf K m)) = some false := by
  rw [clOf_of a, clOf_of a2]
  have ne : C ≠ D := fun z => by subst z; rw [s] at s2; cases s2
  unfold PySem.W.kitOne
  rw [if_neg (by intro z; exact ne (Value.ref.inj (beq_iff_eq.mp z)))]
  obtain ⟨cd, hc, _⟩ := PySem.W.any_some hd
  show (if ((PySem.W.clsIn K D).isSome && PySem.W.typeIn K (.ref D) == some (.type "type")) = true then PySem.W.subIn K (.ref C) (.ref D) else none) = _
  rw [if_pos (by rw [hc, ty] <;> rfl), s]
theorem gY_mk {K : PySem.W.Frag} {h : Heap} {mg : Str → Option Value} {m : String} {C : Addr} (X : PySem.W.Frag.In K h) (G : h.Ns mainGlobals mg) (a : PySem.W.nsIn K mainGlobals (Str.ofString m) = some (some (.ref C))) : mg (Str.ofString m) = some (.ref (clOf K m)) := by
  have g := PySem.W.mg_of X G a
  rw [clOf_of a]
  exact g
def LawOkS (n : Nat) (p : DSt → Flow) : Prop := ∀ ns : List Int, ns.length ≤ 63 → ∃ s', p ⟨Sl.ob (.scr ns) :: List.replicate (n - 1) Sl.no, none⟩ = .ret (.val (.bool true)) s'
section
variable {P : Program} {w : World} {K : PySem.W.Frag} {mg : Str → Option Value} {base : Heap} {cl : String → Addr}
theorem law_ok2 {st : Stmt} {x : Str} {N : List Str} {k : Nat} {p : DSt → Flow} {arg : Str} {f : Addr} {fd : FuncData} (F : Fun K x x st f fd) (S : FnScope N [arg] (defScope st))
    (hb : ∀ (f : Addr) (cdv : Value) (A : Around) (outer : List Env) (s : Shared) (H : Hp) (E : XK), RoomG k (A.deeper (envOfC x (defScope st) s.heap.objs.size f cdv)) →
      DSs (cxOf (L2.CX P w) P w K mg base N x (defScope st) f cdv A outer s H E) cl (fun cls d _ H => E cls d H) (defBody st) p)
    (hp : LawOkS N.length p) : FnG P w K mg base (L2.CX P w) (k + 1) f fd [arg] (spLaw K) := by
  refine okG F S (fun vs H Q E h => ?_) (fun cdv A outer s H vs Q E hr h => ?_)
  · obtain ⟨a, ns, rfl, _⟩ := h; rfl
  · refine ⟨_, hb f cdv A outer s H E hr, ?_⟩
    obtain ⟨a, ns, rfl, hs, hl, tb, q⟩ := h
    obtain ⟨s', hp1⟩ := hp ns hl
    have hst : L2.start N [V.ref a] = some (.ref a) :: List.replicate (N.length - 1) none := rfl
    have noown : ∀ (σ : L2.St) (j : Nat) (c : Addr), ¬ OwnAt ⟨Sl.ob (.scr ns) :: List.replicate (N.length - 1) Sl.no, none⟩ σ j c := by
      rintro σ j c ⟨⟨ds, e⟩, _⟩
      match j with
      | 0 => cases e
      | j + 1 =>
        simp only [List.getElem?_cons_succ, List.getElem?_replicate] at e
        split at e <;> cases e
    -- the script is known from the start: all of the heap is taken as known
    refine ⟨allG none H, ⟨Sl.ob (.scr ns) :: List.replicate (N.length - 1) Sl.no, none⟩, ⟨?_, allG_ex, fun j sl e => ?_, fun j _ c z => (noown _ j c z).elim, fun j c z => (noown _ j c z).elim, ⟨trivial, tb.to (fun _ _ h _ => h) (fun _ _ h => h) fun c z => allG_in (.inr z)⟩, fun j c z => (noown _ j c z).elim⟩, ?_⟩
    · rw [hst]; simp
    · rw [hst]
      match j with
      | 0 =>
        cases e
        refine ⟨.ref a, rfl, a, rfl, ?_⟩
        have hn : ∀ u, H a = some u → (∀ ps, u ≠ .tbl ps) → allG none H a = some u := fun u hu n => by
          rw [allG_out, hu]
          rintro (z | z)
          · exact z
          · obtain ⟨ps, e⟩ := tb.h z
            rw [hu] at e; cases e; exact n _ rfl
        rcases hs with (e | ⟨o, e⟩) | z
        · exact .inl (.inl (hn _ e fun _ => nofun))
        · exact .inl (.inr ⟨o, hn _ e fun _ => nofun⟩)
        · exact .inr z
      | j + 1 =>
        simp only [List.getElem?_cons_succ, List.getElem?_replicate] at e
        split at e
        · cases e; trivial
        · cases e
    · show FOut K cl _ _ _ _ _ (p _) _
      rw [hp1]
      intro v G' σ' H2 st' S' rr
      cases rr
      exact q H2
end
end DL

/-! DL26: bool(x) -/
noncomputable section
namespace DL
open PySem L2 PyProof.Rows
open Evl (Ex)
def boolO : List PyData → Option R
  | [.int i] => some (.val (.bool (i != 0)))
  | [.bool b] => some (.val (.bool b))
  | _ => none
@[simp] theorem x_boolI {a : Int} : boolO [.int a] = some (.val (.bool (a != 0))) := Eq.trans rfl rfl
@[simp] theorem x_boolB {b : Bool} : boolO [.bool b] = some (.val (.bool b)) := Eq.trans rfl rfl
end DL

/-! DL27: a comprehension over an own list that stays own -/
noncomputable section
namespace DL
open PySem L2 PyProof.Rows
open Evl (Ex)
def isOwnL (j : Nat) (ds : List PyData) (s : DSt) : Prop := s.d[j]? = some (.own ds)
instance (j : Nat) (ds : List PyData) (s : DSt) : Decidable (isOwnL j ds s) := Classical.propDecidable _
def loopCO (j : Nat) (all : List PyData) (b : Bd) (ft : M Bool) (fe : M R) (vs : List Nat) : List PyData → List PyData → M (List PyData)
  | [], acc, s => if isOwnL j all s then .ok acc s else .stuck
  | d :: ds, acc, s => if isOwnL j all s then if noOwn vs s.d then match b d { s with d := blank vs s.d } with
      | none => .stuck
      | some s1 => (nerr (ft s1)).bind fun t s2 => if t then (nerr (bnd fe fEsc s2)).bind fun r s3 => match r with
            | .val x => loopCO j all b ft fe vs ds (acc ++ [x]) { s3 with d := putBack vs s.d s3.d }
            | _ => .stuck
          else loopCO j all b ft fe vs ds acc { s2 with d := putBack vs s.d s2.d }
    else .stuck else .stuck
def kNewL : List PyData → M R := fun acc s => .ok (.new acc) s
def kLcO (s : DSt) (j : Nat) (b : Bd) (ft : M Bool) (fe : M R) (vs : List Nat) (ds : List PyData) : Res R := (if leS ds.length then loopCO j ds b ft fe vs ds [] s else .stuck).bind kNewL
def fLcO (j : Nat) (b : Bd) (ft : M Bool) (fe : M R) (vs : List Nat) : M R := fun s => if j ∈ vs then .stuck else match s.d[j]? with
  | some (.own ds) => kLcO s j b ft fe vs ds
  | _ => .stuck
section
variable {X : Cx} {cl : String → Addr} {W : WX} {tg iter : Expr} {pos : Pos}
end
end DL

/-! DL21: sets of ints made of lists: sorted(set(e)) -/
noncomputable section
namespace DL
open PySem L2 PyProof.Rows
open Evl (Ex)
section
variable {P : Program} {w : World} {A : Around} {E : Value → Shared → Prop} {s : Shared}
def emptySet (w : World) : Obj := { cls := .type "set", dict := none, data := .set #[] 0 (.fresh 0 0 (!w.params.followText "set-order")) }
def SetDone (w : World) (h : Heap) (a : Addr) (ns : List Int) (h' : Heap) : Prop := ∃ c, SetR w h' a (fun j => decide (j ∈ ns)) c ∧ c ≤ ns.length ∧ ∀ b o, h.get? b = some o → h'.get? b = some o
def Filled (s : Shared) (w : World) (ns : List Int) (r : Value) (s2 : Shared) : Prop := r = .none ∧ ∃ h' tk, s2 = { s with heap := h', toks := tk } ∧ SetDone w s.heap s.heap.objs.size ns h'
end
/-! ### the rising list of what is in it -/
def ddI : List Int → List Int
  | [] => []
  | a :: l => if a ∈ l then ddI l else a :: ddI l
def setS (ns : List Int) : List Int := sortI (ddI ns)
def kSortSet (r : R) (s : DSt) : Res R := match look r s with
  | some (.list ds) => (match intsD ds with
    | some ns => if ns.length ≤ 60 then .ok (.new ((setS ns).map .int)) s else .stuck
    | none => .stuck)
  | _ => .stuck
@[simp] theorem y_kSortSet (r : R) (s : DSt) : kSortSet r s = (match look r s with | some (.list ds) => (match intsD ds with | some ns => if ns.length ≤ 60 then .ok (.new ((setS ns).map .int)) s else .stuck | none => .stuck) | _ => .stuck) := Eq.trans rfl rfl
def fSortSet (f : M R) : M R := bnd f kSortSet
@[simp] theorem x_sortSet {f : M R} {s : DSt} : fSortSet f s = (f s).bind kSortSet := Eq.trans rfl rfl
section
variable {X : Cx} {cl : String → Addr} {W : WX} {e a b c : Expr} {f g : M R} {pos : Pos}
def tSetL (X : Cx) (te : TE) : TE := fun σ H Q => te σ H fun v H1 => ∃ (l : Addr) (ns : List Int), v = .ref l ∧ SqL X.K H1 l (ns.map V.int) ∧ ns.length ≤ 60 ∧ ∀ p n, H1 p = none → n ≤ ns.length → Q (.ref p) (upd H1 p (SetO X.w p (fun j => decide (j ∈ ns)) n))
end
end DL

/-! DL28: results that are new all through -/
noncomputable section
namespace DL
open PySem L2 PyProof.Rows
open Evl (Ex)
def Dom (H0 H : Hp) : Prop := ∀ a, H0 a ≠ none → H a ≠ none
theorem Dom.none {H0 H : Hp} (d : Dom H0 H) {a : Addr} (h : H a = none) : H0 a = none := Classical.byContradiction fun z => d a z h
def NewIn (H0 : Hp) (ds : List PyData) (xs : List V) : Prop := ∀ (i : Nat) b es, ds[i]? = some (.list es) → xs[i]? = some (.ref b) → H0 b = none
def OneIn (ds : List PyData) (xs : List V) : Prop := ∀ (i j : Nat) b es fs, ds[i]? = some (.list es) → ds[j]? = some (.list fs) → xs[i]? = some (.ref b) → xs[j]? = some (.ref b) → i = j
def DeepL (ds : List PyData) (H0 H : Hp) (v : V) : Prop := ∀ a xs, v = .ref a → H a = some (.lst xs) → H0 a = none ∧ NewIn H0 ds xs
def DeepT (K : PySem.W.Frag) (ds : List PyData) (H0 H : Hp) (v : V) : Prop := ∃ a xs, v = .ref a ∧ H a = some (.tup xs) ∧ H0 a = none ∧ RpAll K H xs ds ∧ NewIn H0 ds xs ∧ OneIn ds xs
def DeepV (K : PySem.W.Frag) (H0 H : Hp) (v : V) : PyData → Prop
  | .list ds => DeepL ds H0 H v
  | .tuple ds => DeepT K ds H0 H v
  | _ => True
def DeepR (K : PySem.W.Frag) (H0 H : Hp) (s : DSt) (v : V) : R → Prop
  | .new ds => DeepL ds H0 H v
  | .slot i => (∀ ds, s.d[i]? = some (.own ds) → DeepL ds H0 H v) ∧ ∀ d, s.d[i]? = some (.val d) → DeepV K H0 H v d
  | .val d => DeepV K H0 H v d
  | _ => True
theorem NewIn.less {H0 H1 : Hp} {ds : List PyData} {xs : List V} (d : Dom H0 H1) (h : NewIn H1 ds xs) : NewIn H0 ds xs := fun i b es e1 e2 => d.none (h i b es e1 e2)
theorem DeepL.less {H0 H1 H : Hp} {ds : List PyData} {v : V} (d : Dom H0 H1) (h : DeepL ds H1 H v) : DeepL ds H0 H v := fun a xs e e2 => ⟨d.none (h a xs e e2).1, (h a xs e e2).2.less d⟩
theorem DeepT.less {K : PySem.W.Frag} {H0 H1 H : Hp} {ds : List PyData} {v : V} (d : Dom H0 H1) (h : DeepT K ds H1 H v) : DeepT K ds H0 H v := by
  obtain ⟨a, xs, e, e2, h0, hr, h1, h2⟩ := h
  exact ⟨a, xs, e, e2, d.none h0, hr, h1.less d, h2⟩
theorem DeepV.less {K : PySem.W.Frag} {H0 H1 H : Hp} {v : V} {x : PyData} (d : Dom H0 H1) (h : DeepV K H1 H v x) : DeepV K H0 H v x := by
  cases x <;> first | trivial | exact DeepL.less d h | exact DeepT.less d h
theorem DeepR.less {K : PySem.W.Frag} {H0 H1 H : Hp} {s : DSt} {v : V} {r : R} (d : Dom H0 H1) (h : DeepR K H1 H s v r) : DeepR K H0 H s v r := by
  cases r with
  | new ds => exact DeepL.less d h
  | slot i => exact ⟨fun ds e => (h.1 ds e).less d, fun x e => (h.2 x e).less d⟩
  | raw v => trivial
  | ob o => trivial
  | val x => exact DeepV.less d h
structure Of (H0 : Hp) (s : DSt) (σ : L2.St) (H : Hp) : Prop where
  dom : Dom H0 H
  own : ∀ i a, OwnAt s σ i a → H0 a = none
def Gf (H0 G : Hp) : Prop := ∀ a, H0 a ≠ none → G a = none
section
variable {K : PySem.W.Frag} {H0 G H G' H' G4 H4 Gm : Hp} {s s' s4 : DSt} {σ σ' σ4 : L2.St} {v : V} {r : R}
theorem Of.step (j : Of H0 s σ H) (st : Stp G s σ H G' s' σ' H') (S' : SA K G' s' σ' H') : Of H0 s' σ' H' := by
  refine ⟨fun a h => st.dom a (j.dom a h), fun i a z => ?_⟩
  rcases st.own a (.inl ⟨i, z⟩) with q | q
  · rcases q with ⟨k, q⟩ | q
    · exact j.own k a q
    · exact absurd (st.pw a q) (S'.pne i a z)
  · exact j.dom.none q
theorem Gf.step (g : Gf H0 G) (j : Of H0 s σ H) (st : Stp G s σ H G' s' σ' H') (S' : SA K G' s' σ' H') : Gf H0 G' := by
  intro a ha
  obtain ⟨o, e⟩ := Option.ne_none_iff_exists'.mp (j.dom a ha)
  by_cases z : Own s σ a
  · rcases z with ⟨i, z⟩ | z
    · exact absurd (j.own i a z) ha
    · exact G_pown S'.pw (st.pw a z)
  · rw [(st.keep a o e z).2]; exact g a ha
theorem Gf.none (g : Gf H0 G) {a : Addr} {o : HO} (h : G a = some o) : H0 a = none := Classical.byContradiction fun z => by rw [g a z] at h; cases h
def mergeG (G4 G : Hp) : Hp := fun x => match G4 x with
  | some o => some o
  | none => G x
end
/-! ### judgements -/
section
variable (K : PySem.W.Frag) (cl : String → Addr) (W : WX)
def spFd (F : List R → Pw → FRes) : Sp := fun vs H Q E => ∃ (G : Hp) (rs : List R) (w : Pw), Ex G H ∧ Paired (AR K G) vs rs ∧ PwOk G w H ∧ match F rs w with
  | .ok r w' => ∀ v G' H', FStp G w H G' w' H' → PwOk G' w' H' → FRel K H G' w' H' v r → DeepR K H H' ⟨[], none⟩ v r → Q v H'
  | .err x w' => ∀ cls d G' H', FStp G w H G' w' H' → PwOk G' w' H' → XRel K cl x cls d G' → E cls d H'
  | .stuck => False
def FOutd (H0 G : Hp) (s : DSt) (σ : L2.St) (H : Hp) (fl : Flow) (D : Ends) : Prop := match fl with
  | .next s' => ∀ G' σ' H', Stp G s σ H G' s' σ' H' → SA K G' s' σ' H' → D.nx σ' H'
  | .brk s' => ∀ G' σ' H', Stp G s σ H G' s' σ' H' → SA K G' s' σ' H' → D.bk σ' H'
  | .cnt s' => ∀ G' σ' H', Stp G s σ H G' s' σ' H' → SA K G' s' σ' H' → D.ct σ' H'
  | .ret r s' => ∀ v G' σ' H', Stp G s σ H G' s' σ' H' → SA K G' s' σ' H' → RRel K H G' s' σ' H' v r → DeepR K H0 H' s' v r → D.rt v H'
  | .err x s' => ∀ cls d G' σ' H', Stp G s σ H G' s' σ' H' → SA K G' s' σ' H' → XRel K cl x cls d G' → W cls d σ' H'
  | .stuck => False
def tSd (H0 : Hp) (f : DSt → Flow) : TS := fun D σ H => ∃ G s, SA K G s σ H ∧ Of H0 s σ H ∧ FOutd K cl W H0 G s σ H (f s) D
def tDd (H0 : Hp) (f : M R) : TE := fun σ H Q => ∃ G s, SA K G s σ H ∧ Dom H0 H ∧ Out K cl W G s σ H (f s) fun r G' s' H' => ∀ v, RRel K H G' s' σ H' v r → DeepR K H0 H' s' v r → Q v H'
end
def Cald (P : Program) (w : World) (K : PySem.W.Frag) (mg : Str → Option Value) (base : Heap) (cl : String → Addr) (x : Str) (k : Nat) (ps : List Str) (F : List R → Pw → FRes) : Prop :=
  ∃ (f : Addr) (fd : FuncData), FnG P w K mg base (L2.CX P w) k f fd ps (spFd K cl F) ∧ mg x = some (.ref f) ∧ PySem.W.keepIn K (.ref f) = true ∧ Binds K fd ps []
section
variable {K : PySem.W.Frag} {cl : String → Addr} {W : WX} {H0 G H G' H' : Hp} {s s' : DSt} {σ σ' : L2.St}
def fseqn (f g : DSt → Flow) : DSt → Flow := fun s => match f s with
  | .next s' => g s'
  | .err x s' => .err x s'
  | _ => .stuck
end
/-! ### rules -/
section
variable {X : Cx} {cl : String → Addr} {W : WX} {H0 : Hp} {e a b c : Expr} {es : List Expr} {f g : M R} {fs : M (List R)} {pos : Pos} {st : Stmt} {rest : List Stmt} {p q : DSt → Flow}
end
end DL

/-! DL29: a list of lists that grows from nothing old -/
noncomputable section
namespace DL
open PySem L2 PyProof.Rows
open Evl (Ex)
def oneS (n i : Nat) (x : Sl) : List Sl := (List.replicate n Sl.no).set i x
def fGrow (i : Nat) (f1 f2 : M R) (bd : Bd) (p q : DSt → Flow) : DSt → Flow := fun s => match f1 s with
  | .ok (.new d1) s1 => if i < s1.d.length ∧ d1.all atomD = true then (match f2 (putS i .no s1) with
    | .ok (.new d2) s2 => if d2.all atomD = true then (match loopF bd p d2 ⟨oneS s2.d.length i (.own [.list d1]), s2.w⟩ with
      | .next s3 => (match q s3 with
        | .ret (.new ds) s4 => .ret (.new ds) s4
        | _ => .stuck)
      | _ => .stuck) else .stuck
    | _ => .stuck) else .stuck
  | _ => .stuck
section
variable {K : PySem.W.Frag} {G H : Hp} {s : DSt} {σ : L2.St}
end
section
variable {X : Cx} {cl : String → Addr} {W : WX} {H0 : Hp} {e1 e2 tg : Expr} {body rest : List Stmt} {f1 f2 : M R} {pos pos' pl pf : Pos} {p q : DSt → Flow}
end
end DL

/-! DL30: a list of own lists, at a slot -/
noncomputable section
namespace DL
open PySem L2 PyProof.Rows
open Evl (Ex)
def E0 : Hp := fun _ => none
theorem rp0_ref {K : PySem.W.Frag} {b : Addr} {d : PyData} (h : Rp K E0 (.ref b) d) (a : atomD d = true) : False := by
  cases d <;> simp [atomD] at a <;> cases h
theorem rps0_ref {K : PySem.W.Frag} {vs : List V} {es : List PyData} {m : Nat} {b : Addr} (h : RpAll K E0 vs es) (a : es.all atomD = true) (e : vs[m]? = some (.ref b)) : False := by
  obtain ⟨d, e2, rr⟩ := dps_get h e
  exact rp0_ref rr (List.all_eq_true.mp a d (List.mem_of_getElem? e2))
def nestP (a : Addr) (xs : List V) (ds : List PyData) (x : Addr) : Prop := x = a ∨ ∃ (i : Nat) (es : List PyData), ds[i]? = some (.list es) ∧ xs[i]? = some (.ref x)
def nvw (ds : List PyData) (L : Bool) : PyData := if L = true then .list ds else .tuple ds
def nho (xs : List V) (L : Bool) : HO := if L = true then .lst xs else .tup xs
structure NA (K : PySem.W.Frag) (j : Nat) (Gb : Hp) (sb : DSt) (σb : L2.St) (Hb G : Hp) (s : DSt) (σ : L2.St) (H : Hp) (a : Addr) (xs : List V) (ds : List PyData) (L : Bool) : Prop where
  sa : SA K G (putS j .no s) σ H
  stp : Stp Gb sb σb Hb G (putS j .no s) σ H
  jl : j < s.d.length
  ej : σ[j]? = some (some (.ref a))
  one : OneIn ds xs
  len : xs.length = ds.length
  el : ∀ (i : Nat) es, ds[i]? = some (.list es) → es.all atomD = true ∧ ∃ b vs, xs[i]? = some (.ref b) ∧ H b = some (.lst vs) ∧ RpAll K E0 vs es ∧ G b = none ∧ ¬ Own (putS j .no s) σ b ∧ Hb b = none
  at' : ∀ (i : Nat) d, ds[i]? = some d → (∀ es, d ≠ .list es) → atomD d = true ∧ ∃ x, xs[i]? = some x ∧ Rp K E0 x d
  out : s.d[j]? = some (.val (nvw ds L)) ∧ H a = some (nho xs L) ∧ G a = none ∧ ¬ Own (putS j .no s) σ a ∧ Hb a = none
section
variable {K : PySem.W.Frag} {j : Nat} {Gb Hb G H G' H' : Hp} {sb s s' : DSt} {σb σ : L2.St} {a : Addr} {xs : List V} {ds : List PyData} {L : Bool}
theorem NA.ne (N : NA K j Gb sb σb Hb G s σ H a xs ds L) {x : Addr} (h : nestP a xs ds x) : G x = none ∧ ¬ Own (putS j .no s) σ x ∧ Hb x = none ∧ ∃ o, H x = some o := by
  rcases h with rfl | ⟨i, es, e1, e2⟩
  · obtain ⟨_, h1, h2, h3, h4⟩ := N.out
    exact ⟨h2, h3, h4, _, h1⟩
  · obtain ⟨_, b, vs, e3, h1, _, h2, h3, h4⟩ := N.el i es e1
    rw [e2] at e3
    cases e3
    exact ⟨h2, h3, h4, _, h1⟩
def viewG (a : Addr) (xs : List V) (ds : List PyData) (G H : Hp) : Hp := fun x => @ite _ (nestP a xs ds x) (Classical.propDecidable _) (H x) (G x)
def flatS : List Sl → Prop
  | [] => True
  | .own ds :: r => ds.all atomD = true ∧ flatS r
  | _ :: r => flatS r
instance instDecFlat (d : List Sl) : Decidable (flatS d) := Classical.propDecidable _
def sameV (s s' : DSt) : Prop := s'.d = s.d ∧ flatS s.d
instance (s s' : DSt) : Decidable (sameV s s') := Classical.propDecidable _
def thawG (a : Addr) (xs : List V) (ds : List PyData) (G : Hp) : Hp := fun x => @ite _ (nestP a xs ds x) (Classical.propDecidable _) none (G x)
theorem NA.app (N : NA K j Gb sb σb Hb G s σ H a xs ds L) {m : Nat} {es : List PyData} {d : PyData} {b : Addr} {vs : List V} {v : V} (e1 : ds[m]? = some (.list es)) (e2 : xs[m]? = some (.ref b)) (hb : H b = some (.lst vs)) (hd : Rp K E0 v d) (ad : atomD d = true) :
    NA K j Gb sb σb Hb G (putS j (.val (nvw (ds.set m (.list (es ++ [d]))) L)) s) σ (upd H b (.lst (vs ++ [v]))) a xs (ds.set m (.list (es ++ [d]))) L := by
  have hP : nestP a xs ds b := .inr ⟨m, es, e1, e2⟩
  obtain ⟨gb, nb, hbb, _⟩ := N.ne hP
  have pp : ∀ x, putS j .no (putS j x s) = putS j .no s := fun x => by simp [putS]
  have ml : m < ds.length := (List.getElem?_eq_some_iff.mp e1).1
  obtain ⟨at0, b0, vs0, e3, hb0, rr0, _⟩ := N.el m es e1
  rw [e2] at e3
  cases e3
  rw [hb] at hb0
  cases hb0
  have hi : ∀ (i : Nat) d', (ds.set m (PyData.list (es ++ [d])))[i]? = some d' → (i = m ∧ d' = PyData.list (es ++ [d])) ∨ (i ≠ m ∧ ds[i]? = some d') := fun i d' h => by
    by_cases q : i = m
    · subst q
      rw [List.getElem?_set_self ml] at h
      cases h; exact .inl ⟨rfl, rfl⟩
    · rw [List.getElem?_set_ne (Ne.symm q)] at h
      exact .inr ⟨q, h⟩
  refine ⟨by rw [pp]; exact sa_write N.sa gb nb (fun φ q => by rw [hb] at q; cases q), ⟨N.stp.ex, fun x o h1 h2 => ?_, by rw [pp]; exact N.stp.own, fun x h => ?_, N.stp.pw⟩, by simpa [putS] using N.jl, N.ej, fun i k c es1 es2 h1 h2 h3 h4 => ?_, by rw [N.len]; simp, fun i es1 h => ?_, fun i d1 h n => ?_, ?_⟩
  · obtain ⟨h3, h4⟩ := N.stp.keep x o h1 h2
    exact ⟨by rw [upd_ne fun z => by subst z; rw [hbb] at h1; cases h1]; exact h3, h4⟩
  · by_cases z : x = b
    · subst z; rw [upd_same]; simp
    · rw [upd_ne z]; exact N.stp.dom x h
  · have g : ∀ i es1, (ds.set m (PyData.list (es ++ [d])))[i]? = some (PyData.list es1) → ∃ es', ds[i]? = some (PyData.list es') := fun i es1 h => by
      rcases hi i _ h with ⟨rfl, _⟩ | ⟨_, h⟩
      · exact ⟨_, e1⟩
      · exact ⟨_, h⟩
    obtain ⟨_, g1⟩ := g i es1 h1
    obtain ⟨_, g2⟩ := g k es2 h2
    exact N.one i k c _ _ g1 g2 h3 h4
  · rcases hi i _ h with ⟨rfl, e⟩ | ⟨q, h⟩
    · cases e
      refine ⟨by simp only [List.all_append, at0, Bool.true_and]; simp [ad], b, vs ++ [v], e2, upd_same, dps_app rr0 (.cons hd .nil), gb, by rw [pp]; exact nb, hbb⟩
    · obtain ⟨at1, c, ws, e4, h1, h2, h3, h4, h5⟩ := N.el i es1 h
      refine ⟨at1, c, ws, e4, ?_, h2, h3, by rw [pp]; exact h4, h5⟩
      rw [upd_ne fun z => q (by subst z; exact N.one i m c _ _ h e1 e4 e2)]
      exact h1
  · rcases hi i _ h with ⟨rfl, e⟩ | ⟨q, h⟩
    · subst e; exact absurd rfl (n _)
    · exact N.at' i d1 h n
  · obtain ⟨_, h1, h2, h3, h4⟩ := N.out
    have hset : ∀ x, (putS j x s).d[j]? = some x := fun x => by simp only [putS]; exact List.getElem?_set_self N.jl
    refine ⟨by rw [hset], ?_, h2, by rw [pp]; exact h3, h4⟩
    rw [upd_ne fun z => by
      subst z
      rw [hb] at h1
      unfold nho at h1
      split at h1
      · cases h1
        exact rps0_ref rr0 at0 e2
      · cases h1]
    exact h1
theorem sa_no {i : Nat} (S : SA K G s σ H) : SA K G (putS i .no s) σ H ∧ ∀ x, Own (putS i .no s) σ x → Own s σ x := by
  have ho : ∀ k x, OwnAt (putS i .no s) σ k x → OwnAt s σ k x := by
    rintro k x ⟨⟨es, e⟩, e2⟩
    by_cases q : k = i
    · subst q
      simp only [putS, List.getElem?_set] at e
      split at e
      · split at e <;> cases e
      · rename_i z; simp at z
    · simp only [putS, List.getElem?_set_ne (Ne.symm q)] at e
      exact ⟨⟨es, e⟩, e2⟩
  refine ⟨⟨by simp [putS, S.len], S.gh, fun k sl h => ?_, fun k l x h1 h2 => S.inj k l x (ho k x h1) (ho l x h2), fun k x h => S.ownG k x (ho k x h), S.pw, fun k x h => S.pne k x (ho k x h)⟩, fun x z => z.imp (fun ⟨k, z⟩ => ⟨k, ho k x z⟩) id⟩
  by_cases q : k = i
  · subst q
    simp only [putS, List.getElem?_set] at h
    split at h
    · split at h
      · cases h; trivial
      · cases h
    · rename_i z; simp at z
  · simp only [putS, List.getElem?_set_ne (Ne.symm q)] at h
    exact S.slot k sl h
theorem NA.blank (N : NA K j Gb sb σb Hb G s σ H a xs ds L) {i : Nat} (ij : i ≠ j) : NA K j Gb sb σb Hb G (putS i .no s) σ H a xs ds L := by
  have pp : putS j .no (putS i .no s) = putS i .no (putS j .no s) := by simp only [putS]; rw [List.set_comm _ _ ij]
  obtain ⟨S, so⟩ := sa_no (i := i) N.sa
  have hj : (putS i .no s).d[j]? = s.d[j]? := by simp only [putS]; exact List.getElem?_set_ne ij
  refine ⟨by rw [pp]; exact S, by rw [pp]; exact ⟨N.stp.ex, N.stp.keep, fun x z => N.stp.own x (so x z), N.stp.dom, N.stp.pw⟩, by simpa [putS] using N.jl, N.ej, N.one, N.len, fun k es h => ?_, N.at', ?_⟩
  · obtain ⟨at1, b, vs, e3, h1, h2, h3, h4, h5⟩ := N.el k es h
    exact ⟨at1, b, vs, e3, h1, h2, h3, fun z => h4 (by rw [pp] at z; exact so b z), h5⟩
  · have ho := N.out
    rw [hj]
    exact ⟨ho.1, ho.2.1, ho.2.2.1, fun z => ho.2.2.2.1 (by rw [pp] at z; exact so a z), ho.2.2.2.2⟩
end
end DL

/-! DL31: statements while a slot holds a list of own lists -/
noncomputable section
namespace DL
open PySem L2 PyProof.Rows
open Evl (Ex)
def NAx (K : PySem.W.Frag) (j : Nat) (Gb : Hp) (sb : DSt) (σb : L2.St) (Hb G : Hp) (s : DSt) (σ : L2.St) (H : Hp) : Prop := ∃ a xs ds L, NA K j Gb sb σb Hb G s σ H a xs ds L
def NOut (K : PySem.W.Frag) (j : Nat) (Gb : Hp) (sb : DSt) (σb : L2.St) (Hb : Hp) (fl : Flow) (D : Ends) : Prop := match fl with
  | .next s' => ∀ G' σ' H', NAx K j Gb sb σb Hb G' s' σ' H' → D.nx σ' H'
  | .brk s' => ∀ G' σ' H', NAx K j Gb sb σb Hb G' s' σ' H' → D.bk σ' H'
  | .cnt s' => ∀ G' σ' H', NAx K j Gb sb σb Hb G' s' σ' H' → D.ct σ' H'
  | .ret (.val d) s' => atomD d = true ∧ ∀ v G' σ' H', Stp Gb sb σb Hb G' s' σ' H' → SA K G' s' σ' H' → Rp K E0 v d → D.rt v H'
  | _ => False
def tN (K : PySem.W.Frag) (j : Nat) (f : DSt → Flow) : TS := fun D σ H => ∃ Gb sb σb Hb G s, NAx K j Gb sb σb Hb G s σ H ∧ NOut K j Gb sb σb Hb (f s) D
section
variable {K : PySem.W.Frag} {j : Nat} {Gb Hb G H G' H' : Hp} {sb s s' : DSt} {σb σ : L2.St} {a : Addr} {xs : List V} {ds : List PyData} {L : Bool}
end
section
variable {X : Cx} {cl : String → Addr} {W : WX} {e a b c x y : Expr} {es : List Expr} {f g : M R} {fs : M (List R)} {pos : Pos} {st : Stmt} {rest body : List Stmt} {p q : DSt → Flow} {j : Nat}
def vwIf (t : M Bool) (p : DSt → Flow) : DSt → Flow := fun s => match t s with
  | .ok b s1 => if b then (match p s1 with
    | .ret (.val d) s2 => if atomD d = true then .ret (.val d) s2 else .stuck
    | _ => .stuck) else if sameV s s1 then .next s1 else .stuck
  | _ => .stuck
def nForR (i : Nat) (fs : M (List R)) (p : DSt → Flow) : DSt → Flow := fun s => match fs s with
  | .ok [r] s1 => (match look r s1 with
    | some (.int m) => if inB m ∧ sameV s s1 then loopF (bName i) p (rangeD 0 m.toNat) s1 else .stuck
    | _ => .stuck)
  | _ => .stuck
def nApp (j k : Nat) (d : PyData) : DSt → Flow := fun s => match s.d[j]?, s.d[k]? with
  | some (.val (.list ds)), some (.val (.int n)) => (match ixN ds.length n with
    | some m => (match ds[m]? with
      | some (.list es) => if ltS es.length ∧ flatS s.d then .next (putS j (.val (.list (ds.set m (.list (es ++ [d]))))) s) else .stuck
      | _ => .stuck)
    | none => .stuck)
  | _, _ => .stuck
def appAll (d : PyData) : List PyData → Option (List PyData)
  | [] => some []
  | .list es :: r => if ltS es.length then (appAll d r).map (PyData.list (es ++ [d]) :: ·) else none
  | _ :: _ => none
def nForA (j i : Nat) (d : PyData) : DSt → Flow := fun s => match s.d[j]? with
  | some (.val (.list ds)) => if i < s.d.length ∧ flatS (putS i .no s).d then (match appAll d ds with
    | some ds' => .next (putS j (.val (.list ds')) (putS i .no s))
    | none => .stuck) else .stuck
  | _ => .stuck
end
end DL

/-! DL32: the block that begins with x = a call that tells new lists -/
noncomputable section
namespace DL
open PySem L2 PyProof.Rows
open Evl (Ex)
def frz1 (i : Nat) (s : DSt) : DSt := match s.d[i]? with
  | some (.own ds) => { s with d := s.d.set i (.val (.list ds)) }
  | _ => s
def frzS : List Nat → DSt → DSt
  | [], s => s
  | i :: r, s => frzS r (frz1 i s)
def flatE : PyData → Prop
  | .list es => es.all atomD = true
  | d => atomD d = true
def nestOk (ds : List PyData) : Prop := ∀ d ∈ ds, flatE d
def nestOk1 (ds : List PyData) : Prop := nestOk ds ∧ ds.Nodup
def okP : Sl → Sl → Prop
  | _, .no => True
  | .own es, y => es.all atomD = true ∧ (y = .own es ∨ y = .val (.list es))
  | x, y => y = x
def okL : List Sl → List Sl → Prop
  | [], [] => True
  | x :: r, y :: q => okP x y ∧ okL r q
  | _, _ => False
instance (ds : List PyData) : Decidable (nestOk ds) := Classical.propDecidable _
instance (ds : List PyData) : Decidable (nestOk1 ds) := Classical.propDecidable _
instance (x y : List Sl) : Decidable (okL x y) := Classical.propDecidable _
def nEnd (j : Nat) (fl : Flow) : Flow := match fl with
  | .next s => .next (putS j .no s)
  | .ret (.val d) s => if atomD d = true then .ret (.val d) s else .stuck
  | _ => .stuck
def sameW (s0 s1 : DSt) : Prop := s1.w = s0.w
instance (s0 s1 : DSt) : Decidable (sameW s0 s1) := Classical.propDecidable _
def kNB (j : Nat) (g : DSt → Flow) (s0 : DSt) : Res R → Flow
  | .ok (.new ds) s1 => if nestOk1 ds ∧ okL (putS j .no s0).d (putS j .no s1).d ∧ j < s1.d.length then nEnd j (g (putS j (.val (.list ds)) s1)) else .stuck
  | .ok (.val (.tuple ds)) s1 => if nestOk ds ∧ sameW s0 s1 ∧ okL (putS j .no s0).d (putS j .no s1).d ∧ j < s1.d.length then nEnd j (g (putS j (.val (.tuple ds)) s1)) else .stuck
  | _ => .stuck
def fNB (j : Nat) (js : List Nat) (f : M R) (g : DSt → Flow) : DSt → Flow := fun s => kNB j g (frzS js s) (f (frzS js s))
section
variable {K : PySem.W.Frag} {G H : Hp} {s : DSt} {σ : L2.St}
end
section
variable {X : Cx} {cl : String → Addr} {W : WX} {e : Expr} {f : M R} {pos pos' : Pos} {rest : List Stmt} {g : DSt → Flow} {j : Nat} {x : Str}
end
end DL

/-! DL45: a loop each turn of which begins with a list of numbers that is then drawn from -/
noncomputable section
namespace DL
open PySem L2 PyProof.Rows
open Evl (Ex)
def kScCut (k : Nat) (x : R) (s : DSt) : Res R := match x with
  | .ob (.scr ns) => .ok (.new ((ns.take k).map .int)) s
  | _ => .stuck
def fScCut (k : Nat) (f : M R) : M R := bnd f (kScCut k)
@[simp] theorem x_scCut {k : Nat} {f : M R} {s : DSt} : fScCut k f s = (f s).bind (kScCut k) := Eq.trans rfl rfl
@[simp] theorem y_kScCut {k : Nat} {ns : List Int} {s : DSt} : kScCut k (.ob (.scr ns)) s = .ok (.new ((ns.take k).map .int)) s := Eq.trans rfl rfl
section
variable {X : Cx} {cl : String → Addr} {W : WX} {a : Expr} {f : M R} {pos : Pos}
theorem d_scCut {k j : Nat} {p1 p2 : Pos} (ha : DE X cl W a f) : DE X cl W (.Subscript a (.Slice none (some (.Constant (.int (k : Int)) j p1)) none p2) pos) (fScCut k f) := by
  refine pe_imp (pe_slice sl_list ha po_none (po_some pe_int)) fun σ H Q ⟨G, s, S, q⟩ => ?_
  refine ⟨G, s, S, out_mono (out_bind q) fun r G1 s1 H1 st1 S1 k1 v rr => ?_⟩
  unfold kScCut at k1
  split at k1
  · rename_i ns
    obtain ⟨p, rfl, hl⟩ := rr
    refine ⟨k, rfl, p, _, rfl, Evl.ex_l S1.gh hl, fun p0 hp0 => ?_⟩
    have ec : cutV (ns.map V.int) none (some (k : Int)) = (ns.take k).map V.int := by
      unfold cutV
      have e1 : HT.sIx (ns.map V.int).length 0 none = 0 := rfl
      rw [e1, List.map_take]
      have e2 : HT.sIx (ns.map V.int).length (ns.map V.int).length (some (k : Int)) = min k (ns.map V.int).length := by
        unfold HT.sIx
        simp
        try omega
      rw [e2]
      simp only [List.drop_zero, Nat.sub_zero]
      rw [List.take_eq_take_iff]
      omega
    rw [ec]
    obtain ⟨st2, S2, r2⟩ := new_list (H0 := H) S1 hp0 (rp_ints (ns.take k)) st1.dom
    exact k1 G1 _ st2 S2 _ r2
  · exact k1.elim
end
/-! ### -/
def clearZ : List Sl → Prop
  | [] => True
  | .own _ :: _ => False
  | _ :: r => clearZ r
def keepZ : List Sl → List Sl → Prop
  | [], [] => True
  | x :: a, y :: b => (x = .no ∨ y = x) ∧ keepZ a b
  | _, _ => False
theorem clearZ_get : ∀ {d : List Sl} {i : Nat} {ds : List PyData}, clearZ d → d[i]? ≠ some (.own ds)
  | [], _, _, _, e => by simp at e
  | x :: r, 0, ds, h, e => by
    simp at e
    subst e
    exact h
  | x :: r, i + 1, ds, h, e => by
    have h' : clearZ r := by cases x <;> first | exact h | exact h.elim
    exact clearZ_get h' (by simpa using e)
theorem keepZ_get : ∀ {a b : List Sl} {i : Nat} {x : Sl}, keepZ a b → a[i]? = some x → x = .no ∨ b[i]? = some x
  | [], _, i, x, _, e => by simp at e
  | _ :: _, [], _, _, h, _ => h.elim
  | u :: a, v :: b, 0, x, h, e => by
    simp at e
    subst e
    rcases h.1 with q | q
    · exact .inl q
    · exact .inr (by simp [q])
  | u :: a, v :: b, i + 1, x, h, e => by
    have := keepZ_get (i := i) h.2 (by simpa using e)
    simpa using this
theorem keepZ_len : ∀ {a b : List Sl}, keepZ a b → b.length = a.length
  | [], [], _ => rfl
  | [], _ :: _, h => h.elim
  | _ :: _, [], h => h.elim
  | _ :: a, _ :: b, h => by simp [keepZ_len h.2]
def goodW (b : Bd) (k : Nat) (f : M R) (q : DSt → Flow) (ds : List PyData) (s1 : DSt) : Prop := s1.w = none ∧ clearZ s1.d ∧ ∀ d ∈ ds, ∃ (s4 s5 : DSt) (cells : List Int), b d s1 = some s4 ∧ f s4 = .ok (.new (cells.map .int)) s5 ∧ s5.w = none ∧ k < s5.d.length ∧
  ∀ pa : Addr, ∃ s6, q ⟨s5.d.set k (.raw (.ref pa)), some (pa, pa, cells, 0)⟩ = .next s6 ∧ keepZ s1.d s6.d
instance instDecGoodW (b : Bd) (k : Nat) (f : M R) (q : DSt → Flow) (ds : List PyData) (s1 : DSt) : Decidable (goodW b k f q ds s1) := Classical.propDecidable _
def kForW (b : Bd) (k : Nat) (f : M R) (q : DSt → Flow) (ds : List PyData) (s1 : DSt) : Flow := if goodW b k f q ds s1 then .next s1 else .stuck
def fForW (fi : M (List PyData)) (b : Bd) (k : Nat) (f : M R) (q : DSt → Flow) : DSt → Flow := fun s => onRes (fi s) (kForW b k f q)
@[simp] theorem x_forW {fi : M (List PyData)} {b : Bd} {k : Nat} {f : M R} {q : DSt → Flow} {s : DSt} : fForW fi b k f q s = onRes (fi s) (kForW b k f q) := Eq.trans rfl rfl
theorem y_kForW {b : Bd} {k : Nat} {f : M R} {q : DSt → Flow} {ds : List PyData} {s : DSt} (h : goodW b k f q ds s) : kForW b k f q ds s = .next s := if_pos h
section
variable {X : Cx} {cl : String → Addr} {W : WX} {e tg iter : Expr} {f : M R} {fi : M (List PyData)} {pos pos2 : Pos} {q : DSt → Flow}
theorem noOwnZ {s : DSt} {σ : L2.St} {x : Addr} (h : clearZ s.d) (hw : s.w = none) (z : Own s σ x) : TOwn x := by
  rcases z with ⟨i, ⟨ds, e⟩, _⟩ | z
  · exact (clearZ_get h e).elim
  · rw [hw] at z; exact z.elim False.elim id
theorem noOwnY {s : DSt} {σ : L2.St} {j : Nat} {x : Addr} (h : clearZ s.d) : ¬ OwnAt s σ j x := fun ⟨⟨ds, e⟩, _⟩ => clearZ_get h e
theorem s_forW {rest : List Stmt} {gg : TG} {bd : Bd} {js : List Nat} {k : Nat} {y : Str} {py : Pos} (hp : PassesOwn (model X.prog X.w) X.A X.env X.xe) (hc : X.calm = true) (hi : DI X cl W tg iter fi) (hg : PG X tg gg) (ho : GOk X.K gg bd js)
    (hN : X.N.Nodup) (hk : X.N[k]? = some y) (hy : Loc X.env.scope y) (he : DE X cl W e f) (hr : DSs X cl W rest q)
    (hsw : swapsWith e (some (.Name y py)) pos2.line X.env = pure false := by rfl) (hf : X.fn y = true ∨ X.env.scope.names.lookup y = some .local := by first | exact .inl rfl | exact .inr rfl | assumption)
    (hs : ∀ x, foldedSetIterable iter X.env x = pure x := by intro _; rfl) : DS X cl W (.For tg iter (.Assign [.Name y py] e pos2 :: rest) [] pos) (fForW fi bd k f q) := by
  refine ps_imp (ps_for hp hc hi hg (pss_cons (ps_set hN hk hy he hsw hf) hr) hs) fun D σ H ⟨G, s, S, h⟩ => ⟨G, s, S, out_mono (fout_res h) fun ds G1 s1 H1 st1 S1 kk J hJ => ?_⟩
  have kk := fout_shift st1 kk
  unfold kForW at kk
  split at kk
  rotate_left
  · exact kk.elim
  rename_i hgood
  obtain ⟨w1, cz, good⟩ := hgood
  refine ⟨fun i m σ2 H2 => ∃ G2, SA X.K G2 s1 σ2 H2 ∧ Ex G1 G2 ∧ m = ds.length - i ∧ i ≤ ds.length ∧ Stp G1 s1 σ H1 G2 s1 σ2 H2, ⟨ds.length, G1, S1, Ex.refl G1, by simp, Nat.zero_le _, Stp.refl⟩, ?_⟩
  rintro i m σ2 H2 ⟨G2, S2, ex2, rfl, hi, st2⟩
  obtain ⟨j1, j2⟩ := hJ G2 s1 σ2 H2 ex2 S2 i
  by_cases hl : i < ds.length
  · obtain ⟨go, yl⟩ := j1 ds[i] (List.getElem?_eq_getElem hl)
    obtain ⟨s4, s5, cells, eb, ef, w5, k5, hq⟩ := good ds[i] (List.getElem_mem hl)
    refine .inr ⟨go, fun σ3 H3 => ∃ G3, SA X.K G3 s1 σ3 H3 ∧ Ex G1 G3 ∧ Stp G1 s1 σ H1 G3 s1 σ3 H3, fun σ3 H3 ⟨G3, S3, ex3, st3⟩ => ⟨ds.length - (i + 1), by omega, G3, S3, ex3, rfl, hl, st3⟩, fun x H3 y => ?_⟩
    obtain ⟨G3, st3, S3, rp⟩ := yl x H3 y
    refine ho x ds[i] G3 s1 σ2 H3 s4 _ S3 rp eb fun σ4 l4 n4 m4 w4 st4 S4 => ?_
    refine ⟨G3, s4, S4, ?_⟩
    rw [ef]
    intro G5 H5 st5 S5 v rr
    obtain ⟨pa, xs, rfl, ha, hd, hga, h0, hn⟩ := rr
    have exs : xs = cells.map V.int := ints_rp hd (by simp)
    subst exs
    have Sp := put_ok S5 k5 (x := .raw (.ref pa)) (v := .ref pa) rfl (fun _ _ z => nomatch z)
    have stp : Stp G3 s4 σ4 H3 G5 (putS k (.raw (.ref pa)) s5) (σ4.set k (some (.ref pa))) H5 := put_stp S5 st5 k5 (fun _ _ z => nomatch z)
    have w4n : s4.w = none := w4.trans w1
    have ow : ∀ j c, OwnAt (putS k (.raw (.ref pa)) s5) (σ4.set k (some (.ref pa))) j c → c ≠ pa := fun j c z q => by
      subst q
      rcases own_put k5 S5.len z with ⟨_, ⟨_, e⟩, _⟩ | ⟨_, z⟩
      · cases e
      · exact hn (.inl ⟨j, z⟩)
    have S6 : SA X.K G5 ⟨s5.d.set k (.raw (.ref pa)), some (pa, pa, cells, 0)⟩ (σ4.set k (some (.ref pa))) H5 := ⟨Sp.len, Sp.gh, Sp.slot, Sp.inj, Sp.ownG, ⟨⟨trivial, by rw [pwA_eq]; exact ha, ha, hga, hga⟩, Sp.pw.2⟩, fun j c z q => q.elim (fun q => ow j c z (q.elim id id)) fun q => Sp.pne j c z (.inr q)⟩
    have st6 : Stp G3 s4 σ4 H3 G5 ⟨s5.d.set k (.raw (.ref pa)), some (pa, pa, cells, 0)⟩ (σ4.set k (some (.ref pa))) H5 := ⟨stp.ex, stp.keep, fun c z => by
      rcases z with z | z
      · exact stp.own c (.inl z)
      · rcases z with z | z
        · have : c = pa := z.elim id id
          subst this
          exact .inr h0
        · exact .inl (.inr (.inr z)), stp.dom, fun c z => by rw [w4n] at z; exact z.elim False.elim fun z => .inr z⟩
    obtain ⟨s6, eq, kz⟩ := hq pa
    refine ⟨G5, _, S6, ?_⟩
    rw [eq]
    intro G7 σ7 H7 st7 S7
    have stA : Stp G2 s1 σ2 H2 G7 s6 σ7 H7 := (st3.trans st4).trans (st6.trans st7)
    have stR : Stp G2 s1 σ2 H2 G7 s1 σ7 H7 := ⟨stA.ex, stA.keep, fun c z => .inl (.inr (.inr (noOwnZ cz w1 z))), stA.dom, fun c z => by rw [w1] at z; exact .inr (z.elim False.elim id)⟩
    refine ⟨G7, ⟨by rw [← S7.len]; exact (keepZ_len kz).symm, S7.gh, fun j sl e => ?_, fun j _ c z => (noOwnY cz z).elim, fun j c z => (noOwnY cz z).elim, by rw [w1]; exact ⟨trivial, S7.pw.2⟩, fun j c z => (noOwnY cz z).elim⟩, ex2.trans stR.ex, st2.trans stR⟩
    rcases keepZ_get kz e with q | q
    · subst q; trivial
    · exact S7.slot j sl q
  · have e : i = ds.length := by omega
    subst e
    exact .inl ⟨j2 (Nat.le_refl _), kk G2 σ2 H2 st2 S2⟩
end
end DL

/-! DL46: texts cut up -/
noncomputable section
namespace DL
open PySem L2 PyProof.Rows
open Evl (Ex)
def kSplitB (a : Str) (y : R) (s : DSt) : Res R := match look y s with
  | some (.str b) => if (b.length == 0) = false ∧ leS (a.length + 2) then .ok (.new ((Txt.split a b).map .str)) s else .stuck
  | _ => .stuck
def kSplitA (g : M R) (x : R) (s : DSt) : Res R := match look x s with
  | some (.str a) => (g s).bind (kSplitB a)
  | _ => .stuck
def fSplit (f g : M R) : M R := bnd f (kSplitA g)
@[simp] theorem x_split {f g : M R} {s : DSt} : fSplit f g s = (f s).bind (kSplitA g) := Eq.trans rfl rfl
@[simp] theorem y_kSplitA {g : M R} {a : Str} {s : DSt} : kSplitA g (.val (.str a)) s = (g s).bind (kSplitB a) := Eq.trans rfl rfl
@[simp] theorem y_kSplitB {a b : Str} {s : DSt} : kSplitB a (.val (.str b)) s = if (b.length == 0) = false ∧ leS (a.length + 2) then .ok (.new ((Txt.split a b).map .str)) s else .stuck := Eq.trans rfl rfl
theorem rp_strs {K : PySem.W.Frag} {G : Hp} : ∀ ws : List Str, RpAll K G (ws.map V.str) (ws.map .str)
  | [] => .nil
  | a :: ws => .cons (.str a) (rp_strs ws)
section
variable {X : Cx} {cl : String → Addr} {W : WX} {a b : Expr} {f g : M R} {pos : Pos}
theorem d_split {apos : Pos} (ha : DE X cl W a f) (hb : DE X cl W b g) (hs : starEach [b] X.env = [(false, eval b X.env)] := by rfl) (hbase : attributeBase a "split" X.env (eval a X.env) = eval a X.env := by rfl) (hline : (apos.endLine == pos.line) = true := by rfl) :
    DE X cl W (.Call (.Attribute a "split" apos) [b] [] pos) (fSplit f g) := by
  refine pe_imp (pe_split ha hb hs hbase hline) fun σ H Q ⟨G, s, S, q⟩ => ?_
  refine ⟨G, s, S, out_mono (out_bind q) fun r G1 s1 H1 st1 S1 k1 v rr => ?_⟩
  unfold kSplitA at k1
  split at k1
  · rename_i x e1
    obtain rfl := dq_str (look_q S1 rr e1)
    refine ⟨⟨x, rfl⟩, G1, s1, S1, out_mono (out_bind k1) fun r2 G2 s2 H2 st2 S2 k2 u ru => ?_⟩
    unfold kSplitB at k2
    split at k2
    · rename_i y e2
      obtain rfl := dq_str (look_q S2 ru e2)
      split at k2
      · rename_i hh
        refine ⟨x, y, rfl, rfl, hh.1, hh.2, fun p0 hp0 => ?_⟩
        obtain ⟨st3, S3, r3⟩ := new_list (H0 := H) S2 hp0 (rp_strs (Txt.split x y)) (st1.trans st2).dom
        exact k2 G2 _ st3 S3 _ r3
      · exact k2.elim
    · exact k2.elim
  · exact k1.elim
end
end DL

/-! DL47: sorted(set(e)), e a list of twos of numbers -/
noncomputable section
namespace DL
open PySem L2 PyProof.Rows
open Evl (Ex)
def prT (p : Int × Int) : PyData := .tuple [.int p.1, .int p.2]
def pairD : PyData → Option (Int × Int)
  | .tuple [.int a, .int b] => some (a, b)
  | _ => none
def pairsD : List PyData → Option (List (Int × Int))
  | [] => some []
  | d :: r => match pairD d, pairsD r with
    | some p, some ps => some (p :: ps)
    | _, _ => none
@[simp] theorem pairD_prT (p : Int × Int) : pairD (prT p) = some p := rfl
/-! ### rising twos -/
def ltP (p q : Int × Int) : Prop := p.1 < q.1 ∨ (p.1 = q.1 ∧ p.2 < q.2)
instance (p q : Int × Int) : Decidable (ltP p q) := by unfold ltP; infer_instance
def insP (p : Int × Int) : List (Int × Int) → List (Int × Int)
  | [] => [p]
  | q :: r => if p = q then q :: r else if ltP p q then p :: q :: r else q :: insP p r
def setP : List (Int × Int) → List (Int × Int)
  | [] => []
  | p :: r => insP p (setP r)
/-! ### -/
def nnP (ps : List (Int × Int)) : Prop := ∀ p ∈ ps, 0 ≤ p.1 ∧ 0 ≤ p.2
instance instDecNnP (ps : List (Int × Int)) : Decidable (nnP ps) := Classical.propDecidable _
def kSortSetP (r : R) (s : DSt) : Res R := match look r s with
  | some (.list ds) => (match pairsD ds with
    | some ps => if ps.length < 64 ∧ nnP ps then .ok (.new ((setP ps).map prT)) s else .stuck
    | none => .stuck)
  | _ => .stuck
@[simp] theorem y_kSortSetP (r : R) (s : DSt) : kSortSetP r s = (match look r s with | some (.list ds) => (match pairsD ds with | some ps => if ps.length < 64 ∧ nnP ps then .ok (.new ((setP ps).map prT)) s else .stuck | none => .stuck) | _ => .stuck) := Eq.trans rfl rfl
def fSortSetP (f : M R) : M R := bnd f kSortSetP
@[simp] theorem x_sortSetP {f : M R} {s : DSt} : fSortSetP f s = (f s).bind kSortSetP := Eq.trans rfl rfl
section
variable {X : Cx} {cl : String → Addr} {W : WX} {e a b c : Expr} {f g : M R} {pos : Pos}
end
end DL

/-! DL48: range downwards; x[i], x[j] = a, b of an own list -/
noncomputable section
namespace DL
open PySem L2 PyProof.Rows
open Evl (Ex)
def downD (lo : Int) (n : Nat) : List PyData := (List.range n).map fun (k : Nat) => PyData.int (lo - (k : Int))
def kRng3 (rs : List R) (s : DSt) : Res (List PyData) := match rs with
  | [r, r2, r3] => match look r s, look r2 s, look r3 s with
    | some (.int i), some (.int j), some (.int c) => if c = -1 ∧ inB i ∧ inB j then .ok (downD i (i - j).toNat) s else .stuck
    | _, _, _ => .stuck
  | _ => .stuck
def fRng3 (fs : M (List R)) : M (List PyData) := bnd fs kRng3
@[simp] theorem x_rng3 {fs : M (List R)} {s : DSt} : fRng3 fs s = (fs s).bind kRng3 := Eq.trans rfl rfl
@[simp] theorem y_kRng3 (rs : List R) (s : DSt) : kRng3 rs s = (match rs with
  | [r, r2, r3] => match look r s, look r2 s, look r3 s with
    | some (.int i), some (.int j), some (.int c) => if c = -1 ∧ inB i ∧ inB j then .ok (downD i (i - j).toNat) s else .stuck
    | _, _, _ => .stuck
  | _ => .stuck) := Eq.trans rfl rfl
section
variable {X : Cx} {cl : String → Addr} {W : WX} {tg a b c e : Expr} {f g1 g2 : M R} {fs : M (List R)} {pos : Pos}
def kSwap3 (i : Nat) (d2 : PyData) (r : R) (s : DSt) : Flow := match look r s, s.d[i]? with
  | some (.int n), some (.own ds) => (match ixN ds.length n with
    | some j => .next (putS i (.own (ds.set j d2)) s)
    | none => .stuck)
  | _, _ => .stuck
def kSwap2 (i : Nat) (d1 d2 : PyData) (g2 : M R) (r : R) (s : DSt) : Flow := match look r s, s.d[i]? with
  | some (.int n), some (.own ds) => (match ixN ds.length n with
    | some j => onRes (g2 (putS i (.own (ds.set j d1)) s)) (kSwap3 i d2)
    | none => .stuck)
  | _, _ => .stuck
def kSwap1 (i : Nat) (g1 g2 : M R) (r : R) (s : DSt) : Flow := match r with
  | .val (.tuple [d1, d2]) => onRes (g1 s) (kSwap2 i d1 d2 g2)
  | _ => .stuck
def fSwap (i : Nat) (f g1 g2 : M R) : DSt → Flow := fun s => if isOwn i s = true then onRes (f s) (kSwap1 i g1 g2) else .stuck
@[simp] theorem x_swap {i : Nat} {f g1 g2 : M R} {s : DSt} : fSwap i f g1 g2 s = if isOwn i s = true then onRes (f s) (kSwap1 i g1 g2) else .stuck := Eq.trans rfl rfl
@[simp] theorem y_kSwap1 {i : Nat} {d1 d2 : PyData} {g1 g2 : M R} {s : DSt} : kSwap1 i g1 g2 (.val (.tuple [d1, d2])) s = onRes (g1 s) (kSwap2 i d1 d2 g2) := Eq.trans rfl rfl
@[simp] theorem y_kSwap2 (i : Nat) (d1 d2 : PyData) (g2 : M R) (r : R) (s : DSt) : kSwap2 i d1 d2 g2 r s = (match look r s, s.d[i]? with
  | some (.int n), some (.own ds) => (match ixN ds.length n with
    | some j => onRes (g2 (putS i (.own (ds.set j d1)) s)) (kSwap3 i d2)
    | none => .stuck)
  | _, _ => .stuck) := Eq.trans rfl rfl
@[simp] theorem y_kSwap3 (i : Nat) (d2 : PyData) (r : R) (s : DSt) : kSwap3 i d2 r s = (match look r s, s.d[i]? with
  | some (.int n), some (.own ds) => (match ixN ds.length n with
    | some j => .next (putS i (.own (ds.set j d2)) s)
    | none => .stuck)
  | _, _ => .stuck) := Eq.trans rfl rfl
theorem s_swap {i : Nat} {x y k l : Expr} {p1 p2 pt : Pos} {kt : Nat} (hc : X.calm = true) (he : DE X cl W e f) (hx : PE X x (tVar i)) (hk : DE X cl W k g1) (hy : PE X y (tVar i)) (hl : DE X cl W l g2)
    (ha : ∀ v, assign (.Subscript x k p1) X.env v = (do
      let ov ← holding [v] (eval x X.env)
      let iv ← holding [v, ov] (eval k X.env)
      standAt p1
      holding [v, ov, iv] (setItem ov iv v)
      release [v, ov, iv] []) := by intro _; rfl)
    (hb : ∀ v, assign (.Subscript y l p2) X.env v = (do
      let ov ← holding [v] (eval y X.env)
      let iv ← holding [v, ov] (eval l X.env)
      standAt p2
      holding [v, ov, iv] (setItem ov iv v)
      release [v, ov, iv] []) := by intro _; rfl)
    (hs : swapsWithSole [.Tuple [.Subscript x k p1, .Subscript y l p2] kt pt] e pos.line X.env = pure false := by rfl) (hw : swappedStores [.Tuple [.Subscript x k p1, .Subscript y l p2] kt pt] e X.env = pure none := by rfl) (h1 : (assignEach [.Tuple [.Subscript x k p1, .Subscript y l p2] kt pt] X.env).map (·.2) = [assign (.Tuple [.Subscript x k p1, .Subscript y l p2] kt pt) X.env] := by rfl)
    (h2 : (assignEach [.Subscript x k p1, .Subscript y l p2] X.env).map (·.2) = assign (.Subscript x k p1) X.env :: (assignEach [.Subscript y l p2] X.env).map (·.2) := by rfl)
    (h3 : (assignEach [.Subscript y l p2] X.env).map (·.2) = assign (.Subscript y l p2) X.env :: (assignEach [] X.env).map (·.2) := by rfl)
    (hn : (assignEach [.Subscript x k p1, .Subscript y l p2] X.env).length = 2 := by rfl) (hst : (assignEach [.Subscript x k p1, .Subscript y l p2] X.env).findIdx? (·.1) = none := by rfl) :
    DS X cl W (.Assign [.Tuple [.Subscript x k p1, .Subscript y l p2] kt pt] e pos) (fSwap i f g1 g2) := by
  refine ps_imp (ps_asg he (pg_tup hc (pgs_cons (pg_sub hx hk set_list ha) (pgs_cons (pg_sub hy hl set_list hb) pgs_nil h3) h2) hn hst) hs hw h1) fun D σ H ⟨G, s, S, h⟩ => ?_
  unfold fSwap at h
  split at h
  rotate_left
  · exact h.elim
  rename_i ho
  refine ⟨G, s, S, out_mono (fout_res h) fun r G1 s1 H1 st1 S1 k1 v rr => ?_⟩
  unfold kSwap1 at k1
  split at k1
  rotate_left
  · exact k1.elim
  rename_i d1 d2
  cases (show Rp X.K G1 v (.tuple [d1, d2]) from rr) with
  | tup hT hA =>
    cases hA with
    | cons r1 hA =>
      cases hA with
      | cons r2 hA =>
        cases hA
        rename_i y1 y2
        refine ⟨_, _, rfl, .of (S1.gh _ _ hT), rfl, _, _, rfl, ?_⟩
        obtain ⟨ds0, h0⟩ := isOwn_get ho
        obtain ⟨l0, xs0, el, _, _⟩ := own_at S h0
        refine ⟨.ref l0, el, G1, s1, S1, ?_⟩
        refine out_mono (fout_res (fout_shift st1 k1)) fun q G2 s2 H2 st2 S2 k3 u ru => ?_
        unfold kSwap2 at k3
        split at k3
        rotate_left
        · exact k3.elim
        rename_i n ds e1 e2
        split at k3
        rotate_left
        · exact k3.elim
        rename_i j ej
        obtain rfl := dq_int (look_q S2 ru e1)
        obtain ⟨l2, xs, el2, hl2, hd2⟩ := own_at S2 e2
        rw [el] at el2
        cases el2
        obtain ⟨st3, S3⟩ := own_write S2 e2 el (dps_set (dp_mono st2.ex _ _ r1) j hd2)
        refine ⟨l0, xs, n, j, rfl, rfl, hl2, by rw [dps_len hd2]; exact ej, ?_⟩
        refine ⟨_, _, rfl, .ref l0, el, G2, _, S3, ?_⟩
        refine out_mono (fout_res (fout_shift (st2.trans st3) k3)) fun q4 G4 s4 H4 st4 S4 k4 u4 ru4 => ?_
        unfold kSwap3 at k4
        split at k4
        rotate_left
        · exact k4.elim
        rename_i n4 ds4 e14 e24
        split at k4
        rotate_left
        · exact k4.elim
        rename_i j4 ej4
        obtain rfl := dq_int (look_q S4 ru4 e14)
        obtain ⟨l4, xs4, el4, hl4, hd4⟩ := own_at S4 e24
        rw [el] at el4
        cases el4
        obtain ⟨st5, S5⟩ := own_write S4 e24 el (dps_set (dp_mono ((st2.trans (st3.trans st4)).ex) _ _ r2) j4 hd4)
        refine ⟨l0, xs4, n4, j4, rfl, rfl, hl4, by rw [dps_len hd4]; exact ej4, rfl, ?_⟩
        exact k4 _ σ _ (st4.trans st5) S5
end
end DL

/-! DL71: B.__init__(self, ..), B an own class over ValueError without an __init__ of its own -/
noncomputable section
namespace DL
open PySem L2 PyProof.Rows PySem.Calls
section
variable {X : Cx} {e : Expr} {es : List Expr} {ta : TA} {p1 p2 pos : Pos} {x : Str} {CF : Addr} {mc : Value}
theorem pe_clsinit {pl : Sem Bool} (hg : Gl X x) (hm : X.mg x = some (.ref CF)) (r : ClX.CRead X.K CF mc) (vV : PySem.W.findCls X.K (.ref CF) mc "__init__" = some (.val (.builtin "ValueError.__init__"))) (ha : PA X (e :: es) ta)
    (hdb : (x == ("__debug__" : Str)) = false := by decide)
    (hc : eval (.Call (.Attribute (.Name x p1) "__init__" p2) (e :: es) [] pos) X.env = (do
      let ov ← eval (.Name x p1) X.env
      standAt p2.atName
      let (f, first) ← holding [ov] (getMethod ov "__init__" pl)
      callWith pos f first (backTo pos (starEach (e :: es) X.env)) (backToKw pos (keywordEach [] X.env))) := by rfl)
    (he : starEach (e :: es) X.env = (false, eval e X.env) :: starEach es X.env := by rfl) (hpl : (backTo pos (starEach es X.env)).any (·.1) = false := by rfl) :
    PE X (.Call (.Attribute (.Name x p1) "__init__" p2) (e :: es) [] pos) (tVeI X.K ta) := by
  refine ⟨fun pins s σ H Q I h => ?_⟩
  refine PySem.W.methodCall_KW (ld_glob I hg hm ?_ hdb) hc
  refine PySem.W.method_cls I.kIn r.ga (PySem.W.cls_value I.kIn r.rd vV (by decide +kernel) ?_)
  show wpAny _ _ (callWith pos (Value.builtin "ValueError.__init__") [] (backTo pos (starEach (e :: es) X.env)) []) _ _ _
  refine PyProof.Rows.callWith_method1 (thn (ha.run pos pins _ σ H _ (I.tok _) h) fun us s1 ⟨vs, H1, I1, r1, a, C, ws, ev, hl, T, ea, q⟩ => ?_) he hpl
  subst ev
  cases r1 with
  | @cons _ u0 _ ur ra rw' =>
    obtain rfl : u0 = Value.ref a := ra
    have hlen : ur.length ≤ sizeLine := by
      rw [← Paired.length rw', sizeLine_eq]
      omega
    exact oinit_ok T I1 ea hlen fun s' J => ⟨.non, H1, J, rfl, q⟩
end
end DL

/-! DL72: errors that bear a number: raised, caught, looked at; a list of them made by hand -/
noncomputable section
namespace DL
open PySem L2 PySem.Spec PyProof.Rows
open Evl (Ex)
/-! ### the facts of the classes -/
structure ExG (K : PySem.W.Frag) (mg : Str → Option Value) (n : String) : Prop where
  g : mg (Str.ofString n) = some (.ref (clOf K n))
  kp : PySem.W.keepIn K (.ref (clOf K n)) = true
  b : PySem.W.subIn K (.ref (clOf K n)) (.type "BaseException") = some true
  ty : PySem.W.typeIn K (.ref (clOf K n)) = some (.type "type")
  c : ExcC K (clOf K n)
  v : PySem.W.subIn K (.ref (clOf K n)) (.type "ValueError") = some true
  x : n ≠ "NoFall" → n ≠ "NoText" → PySem.W.excIn K (clOf K n) [.type "ValueError", .type "Exception", .type "BaseException", .type "object"] "ValueError.__new__" = true
structure ExGs (K : PySem.W.Frag) (mg : Str → Option Value) (ns : List String) : Prop where
  each : ∀ n ∈ ns, ExG K mg n
  top : ∀ n ∈ ns, PySem.W.exmOne K (.ref (clOf K n)) (.ref (clOf K "FolkError")) = some true
  two : ∀ n ∈ ns, ∀ m ∈ ns, PySem.W.kitOne K (.ref (clOf K n)) (.ref (clOf K m)) = some (n == m)
  gF : mg "FolkError" = some (.ref (clOf K "FolkError"))
structure OxF (K : PySem.W.Frag) (mg : Str → Option Value) (n : String) (q : Str) (st : Stmt) : Prop where
  T : OexC K (clOf K n)
  no : PySem.W.findIn K (.ref (clOf K n)) (fieldOf n) = some none
  g : mg (Str.ofString n) = some (.ref (clOf K n))
  fn : ∃ f fd, PySem.W.findIn K (.ref (clOf K n)) "__init__" = some (some (.ref f)) ∧ PySem.W.typeIn K (.ref f) = some (.type "function") ∧ L2.Fun K "__init__" q st f fd ∧ Binds K fd ["self", fieldOf n] []
  bs : ∃ CF, mg "FolkError" = some (.ref CF) ∧ ClX.CRead K CF (.type "type") ∧ PySem.W.findCls K (.ref CF) (.type "type") "__init__" = some (.val (.builtin "ValueError.__init__"))
def inSt (s : Stmt) : Stmt := match s with
  | .ClassDef _ _ _ (d :: _) _ _ _ _ _ _ _ => d
  | s => s
def spInit (K : PySem.W.Frag) (C : Addr) (fld : Str) : Sp := fun vs H Q _ => ∃ (a : Addr) (v : V), vs = [.ref a, v] ∧ H a = some (exo a C none) ∧ ∀ d, H d = none → d ≠ a → Q .non (upd (upd H d (exd d [(fld, v)])) a (exo a C (some d)))
structure InitOk (P : Program) (w : World) (K : PySem.W.Frag) (mg : Str → Option Value) (base : Heap) (n : String) : Prop where
  T : OexC K (clOf K n)
  g : mg (Str.ofString n) = some (.ref (clOf K n))
  ex : ∃ f fd, PySem.W.findIn K (.ref (clOf K n)) "__init__" = some (some (.ref f)) ∧ PySem.W.typeIn K (.ref f) = some (.type "function") ∧ FnOk P w K mg base CX0 1 f fd ["self", fieldOf n] (spInit K (clOf K n) (fieldOf n)) ∧ Binds K fd ["self", fieldOf n] []
def tInit (K : PySem.W.Frag) (m : Str) (fld : Str) : TS := tSeq (tDrop (tVeI K (tCons (tVar 0) (tCons (tC (.str m)) tNil)))) (tOst K fld (tVar 0) (tVar 1))
theorem init_ok {P : Program} {w : World} {K : PySem.W.Frag} {mg : Str → Option Value} {base : Heap} {n : String} {q : Str} {st : Stmt} {m : Str} (O : OxF K mg n q st) (S : FnScope ["self", fieldOf n] ["self", fieldOf n] (defScope st))
    (hb : ∀ (f : Addr) (cdv : Value) (A : Around) (outer : List Env) (s : Shared) (H : Hp) (E : XK), PSs (cxOf CX0 P w K mg base ["self", fieldOf n] q (defScope st) f cdv A outer s H E).nox (defBody st) (tInit K m (fieldOf n))) : InitOk P w K mg base n := by
  obtain ⟨f, fd, h1, h2, F, B⟩ := O.fn
  refine ⟨O.T, O.g, f, fd, h1, h2, F.ok (k := 0) S (fun vs H Q E h => ?_) (fun cdv A outer s H vs Q E hr h => ⟨_, hb f cdv A outer s H E, ?_⟩), B⟩
  · obtain ⟨a, v, rfl, _⟩ := h; rfl
  · obtain ⟨a, v, rfl, ea, k⟩ := h
    exact ⟨.ref a, rfl, a, clOf K n, [.str m], rfl, by simp, O.T, ea, v, rfl, .ref a, rfl, a, clOf K n, rfl, O.T, O.no, .inl ⟨ea, fun dx h1 h2 => k dx h1 h2⟩⟩
/-! ### such an error is made -/
def tMkA (C : Addr) (fld : Str) (te : TE) : L2.St → Hp → XK → Prop := fun σ H Q => te σ H fun v H1 => ∀ d, H1 d = none → Q (.ref C) (some d) (upd H1 d (.xd [(fld, v)]))
theorem upd_del_same {H : Hp} {a d : Addr} {o1 o2 o3 : HO} {o4 : HO} (na : H a = none) (ne : d ≠ a) : upd (del (upd (upd (upd H a o1) d o2) a o3) a) d o4 = upd H d o4 := by
  funext b
  by_cases hd : b = d
  · subst hd; rw [upd_same, upd_same]
  · rw [upd_ne hd, upd_ne hd]
    by_cases ha : b = a
    · subst ha; rw [del_same, na]
    · rw [L2.del_ne ha, upd_ne ha, upd_ne hd, upd_ne ha]
theorem mkO_reads {K : PySem.W.Frag} {cl : String → Addr} {W : WX} {C : Addr} {fld : Str} {f : M R} {σ : L2.St} {H : Hp} {Q : XK} (q : tD K cl W f σ H fun v H1 => ∀ d, H1 d = none → Q (.ref C) (some d) (upd H1 d (.xd [(fld, v)]))) :
    tMkO C (spInit K C fld) [] (tCons (tD K cl W f) tNil) σ H Q := by
  obtain ⟨G, s, S, q⟩ := q
  refine ⟨G, s, S, out_mono q fun r G1 s1 H1 st S1 k v rr => ?_⟩
  refine ⟨by simp, fun a na => ⟨a, v, rfl, upd_same, fun d hd ne => ?_⟩⟩
  have hd1 : H1 d = none := by rw [upd_ne ne] at hd; exact hd
  refine ⟨rfl, d, [(fld, v)], upd_same, ?_, hd1, ?_⟩
  · rw [upd_ne ne, upd_same]
  · rw [upd_del_same na ne]
    exact k v rr d hd1
section
variable {X : Cx} {cl : String → Addr} {W : WX} {x : Str} {n : String} {e iter : Expr} {es : List Expr} {f : M R} {fs : M (List R)} {p pos pos' : Pos}
theorem pmk_arg {te : TE} (O : InitOk X.prog X.w X.K X.mg X.base n) (hr : Room 2 X.A) (hg : Gl X x) (hx : x = Str.ofString n) (ha : PE X e te) (hdb : (x == ("__debug__" : Str)) = false := by decide)
    (he : starEach [e] X.env = (false, eval e X.env) :: starEach [] X.env := by rfl) (hpl : (backTo pos (starEach [] X.env)).any (·.1) = false := by rfl) :
    PMk X (.Call (.Name x p) [e] [] pos) (tMkO (clOf X.K n) (spInit X.K (clOf X.K n) (fieldOf n)) [] (tCons te tNil)) := by
  obtain ⟨f, fd, h1, h2, F, B⟩ := O.ex
  exact pmk_oex (k := 1) (p := p) (ds := []) (dvs := []) O.T h1 h2 F hr B .nil (fun _ _ _ _ _ _ _ z => z.elim) hg (by rw [hx]; exact O.g) (pa_cons ha pa_nil he) hdb he hpl
/-! ### raise C(e) -/
def fRaiseA (n : String) (f : M R) : DSt → Flow := fun s => match f s with
  | .ok (.val (.int i)) s' => .err ⟨n, some (.int i)⟩ s'
  | .err x s' => .err x s'
  | _ => .stuck
theorem s_raiseA (O : InitOk X.prog X.w X.K X.mg X.base n) (hcl : cl = clOf X.K) (hr : Room 2 X.A) (hc : X.calm = true) (tk : Takes X W) (hg : Gl X x) (hx : x = Str.ofString n) (ha : DE X cl W e f) (hdb : (x == ("__debug__" : Str)) = false := by decide)
    (he : starEach [e] X.env = (false, eval e X.env) :: starEach [] X.env := by rfl) (hpl : (backTo pos' (starEach [] X.env)).any (·.1) = false := by rfl) :
    DS X cl W (.Raise (some (.Call (.Name x p) [e] [] pos')) none pos) (fRaiseA n f) := by
  refine ps_imp (ps_raise hc tk (pmk_arg O hr hg hx ha hdb he hpl)) fun D σ H ⟨G, s, S, h⟩ => mkO_reads ?_
  refine ⟨G, s, S, ?_⟩
  unfold fRaiseA at h
  cases ef : f s with
  | err y s1 => rw [ef] at h; exact fun cls d G' H' st S' xr => h cls d G' σ H' st S' xr
  | stuck => rw [ef] at h; exact h
  | ok r s1 =>
    rw [ef] at h
    intro G1 H1 st1 S1 v rr d hd
    cases r with
    | raw u => exact h.elim
    | ob o => exact h.elim
    | slot o => exact h.elim
    | new o => exact h.elim
    | val y =>
      cases y with
      | int i =>
        cases (show Rp X.K G1 v (.int i) from rr)
        obtain ⟨st2, S2⟩ := new_known (.xd [(fieldOf n, .int i)]) S1 hd
        exact h _ _ _ _ _ (st1.trans st2) S2 ⟨by rw [hcl], d, .int i, rfl, upd_same, .int i⟩
      | none => exact h.elim
      | bool b => exact h.elim
      | str b => exact h.elim
      | list b => exact h.elim
      | tuple b => exact h.elim
      | dict b => exact h.elim
end
/-! ### try: .. except FolkError as e: caught = e, where the error may bear a number -/
def isCaughtA (ns : List String) (x : Exn) : Bool := ns.contains x.name && (match x.arg with | none => true | some (.int _) => true | some _ => false)
def fTryA (ns : List String) (i j : Nat) (p : DSt → Flow) : DSt → Flow := fun s => match p s with
  | .err x s' => if isCaughtA ns x = true ∧ i < s'.d.length ∧ j < s'.d.length ∧ i ≠ j then .next (putS i .no (putS j (.ob (.exc x)) s')) else .stuck
  | fl => fl
section
variable {X : Cx} {cl : String → Addr} {W : WX} {x n : Str} {C : Addr} {i j : Nat} {body suite : List Stmt} {b₀ : Stmt} {np pos pos' : Pos} {p : DSt → Flow}
theorem try_outA {K : PySem.W.Frag} {ns : List String} {G H : Hp} {s : DSt} {σ : L2.St} {D : Ends} (hcl : cl = clOf K) (hex : ∀ m ∈ ns, PySem.W.exmOne K (.ref (clOf K m)) (.ref C) = some true) (h : FOut K cl W G s σ H (fTryA ns i j p s) D) : FOut K cl (wKeep K (.ref C) i j W D) G s σ H (p s) D := by
  unfold fTryA at h
  cases e : p s with
  | next s' => rw [e] at h; exact h
  | brk s' => rw [e] at h; exact h
  | cnt s' => rw [e] at h; exact h
  | ret r s' => rw [e] at h; exact h
  | stuck => rw [e] at h; exact h
  | err z s' =>
    rw [e] at h
    dsimp only at h
    split at h
    · rename_i hh
      obtain ⟨h1, hi, hj, hij⟩ := hh
      obtain ⟨zn, za⟩ := z
      unfold isCaughtA at h1
      simp only [Bool.and_eq_true, List.contains_iff_mem] at h1
      obtain ⟨hm, ha0⟩ := h1
      intro cls d G' σ' H' st S' xr
      obtain ⟨ec, ed⟩ := xr
      subst ec hcl
      refine ⟨true, hex zn hm, fun _ a ha => ⟨by rw [← S'.len]; exact hi, ?_⟩, fun q => nomatch q⟩
      rw [set_thrice hij]
      obtain ⟨st2, S2⟩ := new_known (excO a (.ref (clOf K zn)) d) S' ha
      have ob : ObRel K (upd G' a (excO a (.ref (clOf K zn)) d)) (.ref a) (.exc ⟨zn, za⟩) := ⟨a, d, rfl, upd_same, exa_mono st2.ex ed⟩
      have S3 := put_ok (x := .ob (.exc ⟨zn, za⟩)) (v := .ref a) S2 hj ⟨_, rfl, ob⟩ (fun _ _ q => nomatch q)
      have st3 := put_stp (x := .ob (.exc ⟨zn, za⟩)) (v := .ref a) S2 (st.trans st2) hj (fun _ _ q => nomatch q)
      have hi3 : i < (putS j (.ob (.exc ⟨zn, za⟩)) s').d.length := by simpa [putS] using hi
      exact h _ _ _ (no_stp st3 hi3) (no_ok S3 hi3)
    · exact h.elim
theorem s_tryA {ns : List String} (hcl : cl = clOf X.K) (hex : ∀ m ∈ ns, PySem.W.exmOne X.K (.ref (clOf X.K m)) (.ref C) = some true) (hs : X.stack = X.env :: X.outer) (hf : X.env.frame = some X.env.locals) (hx : X.ex = []) (hN : X.N.Nodup) (hi : X.N[i]? = some n) (hln : X.env.kindOf n = some .local) (hc : Names X x (.ref C)) (tk : Takes X W)
    (hb : ∀ (W : WX) (pn : List (Addr × Obj)) (xe : Value → Shared → Prop), Takes (X.tr pn xe) W → PassesOwn (model X.prog X.w) X.A X.env xe → DSs (X.tr pn xe) cl W body p)
    (hsu : ∀ (a : Addr) (oe : Obj) (pn : List (Addr × Obj)), PSs (X.suite a ((a, oe) :: pn)) (b₀ :: suite) (tAsg (tVar i) (gName j))) :
    DS X cl W (.Try body [.ExceptHandler (some (.Name x np)) (some n) (b₀ :: suite) pos'] [] [] pos) (fTryA ns i j p) :=
  ps_imp (try_keep (tb := fun W => tS X.K cl W p) hs hf hx hN hi hln hc tk hb hsu) fun D σ H ⟨G, s, S, h⟩ => ⟨G, s, S, try_outA hcl hex h⟩
end
/-! ### isinstance of what was caught -/
def rIsXA (K : PySem.W.Frag) : List V → Hp → VK → Prop := fun xs H Q => ∃ (a D : Addr) (d : Option Addr) (c : V) (cv : Value) (b : Bool), xs = [.ref a, c] ∧ H a = some (excO a (.ref D) d) ∧ (∀ dd, d = some dd → ∃ fs, H dd = some (.xd fs)) ∧ ExcC K D ∧ ClsV c cv ∧ PySem.W.kitOne K (.ref D) cv = some b ∧ Q (.bl b) H
theorem inst_of {X : Cx} {pins : List (Addr × Obj)} {σ : L2.St} {H : Hp} {s : Shared} {a D : Addr} {d : Option Addr} (I : Inv X pins σ H s) (ha : H a = some (excO a (.ref D) d)) (hd : ∀ dd, d = some dd → ∃ fs, H dd = some (.xd fs)) :
    ∃ oe od, PySem.W.InstAt s.heap a oe D od ∧ ∀ dd, d = some dd → ∃ o mA, od = some o ∧ s.heap.Ns1 dd mA ∧ (∀ name, PySem.W.lookIn name o = some (mA name)) ∧ ∀ fs, H dd = some (.xd fs) → ∀ f, RelO (fs.lookup f) (mA f) := by
  obtain ⟨⟨oe, h1, z, vs, hv⟩, _⟩ := (show ObjOk X.prog X.w H s.heap a (excO a (.ref D) d) from I.hok a _ ha)
  obtain ⟨oc, od0, oda, osl⟩ := oe
  obtain ⟨z1, z2⟩ := z
  dsimp only at z1 z2 hv
  subst z1 z2 hv
  cases od0 with
  | none => exact ⟨_, none, ⟨h1, rfl, rfl, trivial⟩, fun _ q => nomatch q⟩
  | some dd =>
    obtain ⟨fs, hx⟩ := hd dd rfl
    obtain ⟨mA, hns, hr⟩ := (show ObjOk X.prog X.w H s.heap dd (.xd fs) from I.hok dd _ hx)
    obtain ⟨od, ho, hl⟩ := lookIn_ns hns
    refine ⟨_, some od, ⟨h1, rfl, rfl, ho⟩, fun dd2 q => ?_⟩
    cases q
    refine ⟨od, mA, rfl, hns, hl, fun fs2 hx2 => ?_⟩
    rw [hx] at hx2
    cases hx2
    exact hr
theorem call_isXA {X : Cx} : CallR X (.builtin "isinstance") (rIsXA X.K) := by
  intro pins s σ H xs us Q I r h
  obtain ⟨a, D, d, c, cv, b, rfl, ha, hd, C, hcv, e, q⟩ := h
  obtain ⟨u1, u2, rfl, r1, r2⟩ := vals2 r
  cases (show u1 = Value.ref a from r1)
  have ec := hcv.eq r2
  subst ec
  obtain ⟨oe, od, J, _⟩ := inst_of I ha hd
  have hcl : (PySem.W.clsIn X.K D).isSome = true := by obtain ⟨cd, hc, _⟩ := PySem.W.any_some C.hd; rw [hc]; rfl
  exact PySem.W.kia_one (PySem.W.kitx_exc hcl C.hg C.hk C.hs C.ha C.hn C.ht C.hm) I.kIn J e (fun z => nomatch z) fun tk => ⟨.bl b, H, I.kept (t' := tk) fun _ _ z => z, rfl, q⟩
theorem exa_xd {K : PySem.W.Frag} {G H : Hp} {n : String} {d : Option Addr} {arg : Option PyData} (e : Ex G H) (h : ExA K G n d arg) : ∀ dd, d = some dd → ∃ fs, H dd = some (.xd fs) := by
  intro dd q
  cases arg with
  | none => have h : d = none := h; rw [h] at q; cases q
  | some x =>
    obtain ⟨d2, v, e1, e2, _⟩ := h
    rw [e1] at q
    cases q
    exact ⟨_, e _ _ e2⟩
def kIsXA (ns : List String) (m : String) (r : R) (s : DSt) : Res R := match r with
  | .ob (.exc x) => if x.name ∈ ns ∧ m ∈ ns then .ok (.val (.bool (x.name == m))) s else .stuck
  | _ => .stuck
def fIsXA (ns : List String) (m : String) (f : M R) : M R := bnd f (kIsXA ns m)
def kIsVA (ns : List String) (r : R) (s : DSt) : Res R := match r with
  | .ob (.exc x) => if x.name ∈ ns then .ok (.val (.bool true)) s else .stuck
  | _ => .stuck
def fIsVA (ns : List String) (f : M R) : M R := bnd f (kIsVA ns)
def kIsYA (ns : List String) (m : String) (r : R) (s : DSt) : Res R := match r with
  | .ob (.exc x) => if x.name ∈ ns then .ok (.val (.bool false)) s else .stuck
  | _ => .stuck
def fIsYA (ns : List String) (m : String) (f : M R) : M R := bnd f (kIsYA ns m)
def kFld (n : String) (r : R) (s : DSt) : Res R := match r with
  | .ob (.exc ⟨m, some (.int i)⟩) => if m = n then .ok (.val (.int i)) s else .stuck
  | _ => .stuck
def fFld (n : String) (f : M R) : M R := bnd f (kFld n)
def tXfT (K : PySem.W.Frag) (f : Str) (te : TE) : TE := fun σ H Q => te σ H fun x H1 => ∃ (a C dd : Addr) (fs : List (Str × V)) (v : V), x = .ref a ∧ H1 a = some (excO a (.ref C) (some dd)) ∧ XfC K C ∧ PySem.W.findIn K (.ref C) f = some none ∧ H1 dd = some (.xd fs) ∧ fs.lookup f = some v ∧ Q v H1
section
variable {X : Cx} {cl : String → Addr} {W : WX} {x : Str} {n : String} {e iter : Expr} {es : List Expr} {f : M R} {fs : M (List R)} {p p2 pos pos' : Pos}
theorem pe_xfT {te : TE} {g : Str} (he : PE X e te) (hb : attributeBase e g X.env (eval e X.env) = eval e X.env := by rfl) : PE X (.Attribute e g pos) (tXfT X.K g te) := by
  refine ⟨fun pins s σ H Q I h => ?_⟩
  refine attr_of hb (thn (he.run pins s σ H _ I h) fun u s1 ⟨y, H1, I1, rx, a, C, dd, fs, v, ex, ha, T, hno, hx, l, q⟩ => ?_)
  subst ex
  obtain rfl : u = Value.ref a := rx
  obtain ⟨oe, od, J, k⟩ := inst_of I1 ha (fun d2 z => by cases z; exact ⟨fs, hx⟩)
  obtain ⟨o, mA, eo, hns, hl, hr⟩ := k dd rfl
  subst eo
  obtain ⟨u, hu, ru⟩ := RelO.some_of (v := v) (o := mA g) (by rw [← l]; exact hr fs hx g)
  exact HandSPX.exc_get I1.kIn J T.ga T.gg T.exC (PySem.W.findObj_own T.hdC hno rfl (by rw [hl, hu])) (handed_of ru) ⟨v, H1, I1.tok _, ru, q⟩
theorem xfc_of {K : PySem.W.Frag} {C : Addr} (h : ExcC K C) : XfC K C := ⟨h.hg, h.hk, h.hs, h.hd⟩
theorem d_fld {g : Str} (T : ExG X.K X.mg n) (hno : PySem.W.findIn X.K (.ref (clOf X.K n)) (fieldOf n) = some none) (hf : fieldOf n = g) (he : DE X cl W e f) (hb : attributeBase e g X.env (eval e X.env) = eval e X.env := by rfl) : DE X cl W (.Attribute e g pos) (fFld n f) := by
  refine pe_imp (pe_xfT he hb) fun σ H Q ⟨G, s, S, q⟩ => ?_
  refine ⟨G, s, S, out_mono (out_bind q) fun r G1 s1 H1 st1 S1 k v rr => ?_⟩
  unfold kFld at k
  split at k
  · rename_i m i
    split at k
    · rename_i hm
      subst hm hf
      obtain ⟨a, d, rfl, hga, dd, v, e1, e2, e3⟩ := rr
      have e1 : d = some dd := e1
      subst e1
      cases e3
      refine ⟨a, _, dd, _, .int i, rfl, S1.gh _ _ hga, xfc_of T.c, hno, S1.gh _ _ e2, ?_, k G1 H1 Stp.refl S1 _ (.int _)⟩
      show List.lookup (fieldOf m) [(fieldOf m, V.int i)] = _
      simp [List.lookup]
    · exact k.elim
  · exact k.elim
/-! ### isinstance -/
theorem d_isXA {ns : List String} {m : String} (T : ExGs X.K X.mg ns) (hg : Gl X "isinstance") (hm : X.mg "isinstance" = none) (ha : DE X cl W e f) (hx : PE X (.Name x p2) (tC (.ref (clOf X.K m))))
    (he : starEach (e :: [.Name x p2]) X.env = (false, eval e X.env) :: starEach [.Name x p2] X.env := by rfl) (he2 : starEach [.Name x p2] X.env = (false, eval (.Name x p2) X.env) :: starEach [] X.env := by rfl) (hpl : (backTo pos (starEach [.Name x p2] X.env)).any (·.1) = false := by rfl) :
    DE X cl W (.Call (.Name "isinstance" p) [e, .Name x p2] [] pos) (fIsXA ns m f) := by
  refine pe_imp (pe_callB call_isXA hg hm (by decide +kernel) (pa_cons ha (pa_cons hx pa_nil he2) he) (by decide) (by decide) he hpl) fun σ H Q ⟨G, s, S, q⟩ => ?_
  refine ⟨G, s, S, out_mono (out_bind q) fun r G1 s1 H1 st1 S1 k v rr => ?_⟩
  unfold kIsXA at k
  split at k
  · rename_i y
    split at k
    · rename_i hh
      obtain ⟨a, d, rfl, hga, hd⟩ := rr
      exact ⟨a, _, d, _, _, _, rfl, S1.gh _ _ hga, exa_xd S1.gh hd, (T.each _ hh.1).c, .own _, T.two _ hh.1 m hh.2, k G1 H1 Stp.refl S1 _ (.bl _)⟩
    · exact k.elim
  · exact k.elim
theorem d_isVA {ns : List String} (T : ExGs X.K X.mg ns) (hg : Gl X "isinstance") (hm : X.mg "isinstance" = none) (ha : DE X cl W e f) (hx : PE X (.Name "ValueError" p2) (tC (.ty "ValueError")))
    (he : starEach (e :: [.Name "ValueError" p2]) X.env = (false, eval e X.env) :: starEach [.Name "ValueError" p2] X.env := by rfl) (he2 : starEach [.Name "ValueError" p2] X.env = (false, eval (.Name "ValueError" p2) X.env) :: starEach [] X.env := by rfl) (hpl : (backTo pos (starEach [.Name "ValueError" p2] X.env)).any (·.1) = false := by rfl) :
    DE X cl W (.Call (.Name "isinstance" p) [e, .Name "ValueError" p2] [] pos) (fIsVA ns f) := by
  refine pe_imp (pe_callB call_isXA hg hm (by decide +kernel) (pa_cons ha (pa_cons hx pa_nil he2) he) (by decide) (by decide) he hpl) fun σ H Q ⟨G, s, S, q⟩ => ?_
  refine ⟨G, s, S, out_mono (out_bind q) fun r G1 s1 H1 st1 S1 k v rr => ?_⟩
  unfold kIsVA at k
  split at k
  · rename_i y
    split at k
    · rename_i hh
      obtain ⟨a, d, rfl, hga, hd⟩ := rr
      exact ⟨a, _, d, _, _, _, rfl, S1.gh _ _ hga, exa_xd S1.gh hd, (T.each _ hh).c, .ty _, kit_V (T.each _ hh).v, k G1 H1 Stp.refl S1 _ (.bl _)⟩
    · exact k.elim
  · exact k.elim
theorem d_isYA {ns : List String} {m : String} (T : ExGs X.K X.mg ns) (Y : ExY X.K X.mg ns m) (hg : Gl X "isinstance") (hm : X.mg "isinstance" = none) (ha : DE X cl W e f) (hx : PE X (.Name x p2) (tC (.ref (clOf X.K m))))
    (he : starEach (e :: [.Name x p2]) X.env = (false, eval e X.env) :: starEach [.Name x p2] X.env := by rfl) (he2 : starEach [.Name x p2] X.env = (false, eval (.Name x p2) X.env) :: starEach [] X.env := by rfl) (hpl : (backTo pos (starEach [.Name x p2] X.env)).any (·.1) = false := by rfl) :
    DE X cl W (.Call (.Name "isinstance" p) [e, .Name x p2] [] pos) (fIsYA ns m f) := by
  refine pe_imp (pe_callB call_isXA hg hm (by decide +kernel) (pa_cons ha (pa_cons hx pa_nil he2) he) (by decide) (by decide) he hpl) fun σ H Q ⟨G, s, S, q⟩ => ?_
  refine ⟨G, s, S, out_mono (out_bind q) fun r G1 s1 H1 st1 S1 k v rr => ?_⟩
  unfold kIsYA at k
  split at k
  · rename_i y
    split at k
    · rename_i hh
      obtain ⟨a, d, rfl, hga, hd⟩ := rr
      exact ⟨a, _, d, _, _, _, rfl, S1.gh _ _ hga, exa_xd S1.gh hd, (T.each _ hh).c, .own _, Y.two _ hh, k G1 H1 Stp.refl S1 _ (.bl _)⟩
    · exact k.elim
  · exact k.elim
/-! ### a list of errors made by hand -/
def fMkX (n : String) (f : M R) : M R := bnd f fun r s => match r with
  | .val (.int i) => .ok (.ob (.exc ⟨n, some (.int i)⟩)) s
  | _ => .stuck
def exsOf (n : String) : List R → Option (List Int)
  | [] => some []
  | .ob (.exc ⟨m, some (.int i)⟩) :: r => if m = n then (exsOf n r).map (i :: ·) else none
  | _ => none
def fExcs (n : String) (fs : M (List R)) : M R := bnd fs fun rs s => match exsOf n rs with
  | some is => if leS rs.length then .ok (.ob (.excs n is)) s else .stuck
  | none => .stuck
def fFlds (n : String) (i : Nat) (f : M R) : M R := bnd f fun r s => match r with
  | .ob (.excs m is) => if m = n ∧ leS is.length ∧ i < s.d.length then .ok (.new (is.map .int)) s else .stuck
  | _ => .stuck
theorem exall_len {K : PySem.W.Frag} {G : Hp} : ∀ {vs : List V} {is : List Int}, ExAll K G n vs is → vs.length = is.length
  | _, _, .nil => rfl
  | _, _, .cons _ _ t => by simp [exall_len t]
theorem exall_get {K : PySem.W.Frag} {G : Hp} : ∀ {vs : List V} {is : List Int} {i : Nat} {v : V}, ExAll K G n vs is → vs[i]? = some v → ∃ (b d : Addr) (z : Int), v = .ref b ∧ is[i]? = some z ∧ G b = some (excO b (.ref (clOf K n)) (some d)) ∧ G d = some (.xd [(fieldOf n, .int z)])
  | _, _, i, v, .nil, e => by simp at e
  | _, _, 0, v, .cons h1 h2 t, e => by simp at e; subst e; exact ⟨_, _, _, rfl, rfl, h1, h2⟩
  | _, _, i + 1, v, .cons h1 h2 t, e => by simpa using exall_get (i := i) t (by simpa using e)
end
/-! ### rows for simp -/
section
variable {s : DSt} {f : M R} {fs : M (List R)} {p : DSt → Flow} {n : String}
def kRaiseA (n : String) (r : R) (s : DSt) : Flow := match r with
  | .val (.int i) => .err ⟨n, some (.int i)⟩ s
  | _ => .stuck
@[simp] theorem x_raiseA : fRaiseA n f s = onRes (f s) (kRaiseA n) := by
  unfold fRaiseA onRes kRaiseA
  cases f s with
  | ok r s' => cases r with
    | val d => cases d <;> rfl
    | _ => rfl
  | err x s' => rfl
  | stuck => rfl
@[simp] theorem y_kRaiseA {i : Int} : kRaiseA n (.val (.int i)) s = .err ⟨n, some (.int i)⟩ s := Eq.trans rfl rfl
def kTryA (ns : List String) (i j : Nat) (fl : Flow) : Flow := match fl with
  | .err x s' => if isCaughtA ns x = true ∧ i < s'.d.length ∧ j < s'.d.length ∧ i ≠ j then .next (putS i .no (putS j (.ob (.exc x)) s')) else .stuck
  | fl => fl
@[simp] theorem x_tryA {ns : List String} {i j : Nat} : fTryA ns i j p s = kTryA ns i j (p s) := by
  unfold fTryA kTryA
  cases p s <;> rfl
@[simp] theorem y_kTryA_next {ns : List String} {i j : Nat} : kTryA ns i j (.next s) = .next s := Eq.trans rfl rfl
@[simp] theorem y_kTryA_ret {ns : List String} {i j : Nat} {r : R} : kTryA ns i j (.ret r s) = .ret r s := Eq.trans rfl rfl
def argOk (a : Option PyData) : Prop := a = none ∨ ∃ i, a = some (.int i)
theorem y_kTryA_err {ns : List String} {i j : Nat} {n : String} {a : Option PyData} (h : argOk a) : kTryA ns i j (.err ⟨n, a⟩ s) = if n ∈ ns ∧ i < s.d.length ∧ j < s.d.length ∧ i ≠ j then .next (putS i .no (putS j (.ob (.exc ⟨n, a⟩)) s)) else .stuck := by
  show (if isCaughtA ns ⟨n, a⟩ = true ∧ _ then _ else _) = _
  have : isCaughtA ns ⟨n, a⟩ = true ↔ n ∈ ns := by
    rcases h with rfl | ⟨i, rfl⟩ <;> simp [isCaughtA]
  simp only [this]
@[simp] theorem y_kIsXA {ns : List String} {m : String} {x : Exn} : kIsXA ns m (.ob (.exc x)) s = if x.name ∈ ns ∧ m ∈ ns then .ok (.val (.bool (x.name == m))) s else .stuck := Eq.trans rfl rfl
@[simp] theorem x_isXA {ns : List String} {m : String} : fIsXA ns m f s = (f s).bind (kIsXA ns m) := Eq.trans rfl rfl
@[simp] theorem y_kIsVA {ns : List String} {x : Exn} : kIsVA ns (.ob (.exc x)) s = if x.name ∈ ns then .ok (.val (.bool true)) s else .stuck := Eq.trans rfl rfl
@[simp] theorem x_isVA {ns : List String} : fIsVA ns f s = (f s).bind (kIsVA ns) := Eq.trans rfl rfl
@[simp] theorem y_kIsYA {ns : List String} {m : String} {x : Exn} : kIsYA ns m (.ob (.exc x)) s = if x.name ∈ ns then .ok (.val (.bool false)) s else .stuck := Eq.trans rfl rfl
@[simp] theorem x_isYA {ns : List String} {m : String} : fIsYA ns m f s = (f s).bind (kIsYA ns m) := Eq.trans rfl rfl
@[simp] theorem y_kFld {m : String} {i : Int} : kFld n (.ob (.exc ⟨m, some (.int i)⟩)) s = if m = n then .ok (.val (.int i)) s else .stuck := Eq.trans rfl rfl
@[simp] theorem x_fld : fFld n f s = (f s).bind (kFld n) := Eq.trans rfl rfl
def kMkX (n : String) (r : R) (s : DSt) : Res R := match r with
  | .val (.int i) => .ok (.ob (.exc ⟨n, some (.int i)⟩)) s
  | _ => .stuck
@[simp] theorem x_mkX : fMkX n f s = (f s).bind (kMkX n) := Eq.trans rfl rfl
@[simp] theorem y_kMkX {i : Int} : kMkX n (.val (.int i)) s = .ok (.ob (.exc ⟨n, some (.int i)⟩)) s := Eq.trans rfl rfl
def kExcs (n : String) (rs : List R) (s : DSt) : Res R := match exsOf n rs with
  | some is => if leS rs.length then .ok (.ob (.excs n is)) s else .stuck
  | none => .stuck
@[simp] theorem x_excs : fExcs n fs s = (fs s).bind (kExcs n) := Eq.trans rfl rfl
def kFlds (n : String) (i : Nat) (r : R) (s : DSt) : Res R := match r with
  | .ob (.excs m is) => if m = n ∧ leS is.length ∧ i < s.d.length then .ok (.new (is.map .int)) s else .stuck
  | _ => .stuck
@[simp] theorem x_flds {i : Nat} : fFlds n i f s = (f s).bind (kFlds n i) := Eq.trans rfl rfl
@[simp] theorem y_kFlds {m : String} {i : Nat} {is : List Int} : kFlds n i (.ob (.excs m is)) s = if m = n ∧ leS is.length ∧ i < s.d.length then .ok (.new (is.map .int)) s else .stuck := Eq.trans rfl rfl
@[simp] theorem y_kExcs3 {a b c : Int} (h : leS 3) : kExcs n [.ob (.exc ⟨n, some (.int a)⟩), .ob (.exc ⟨n, some (.int b)⟩), .ob (.exc ⟨n, some (.int c)⟩)] s = .ok (.ob (.excs n [a, b, c])) s := by
  unfold kExcs
  simp [exsOf, h]
end
/-! ### the facts of the classes, from the written part -/
section
variable {K : PySem.W.Frag} {h : Heap} {mg : Str → Option Value} {n : String} {C CF : Addr}
theorem exg_mk (X : PySem.W.Frag.In K h) (G : h.Ns mainGlobals mg) (a : PySem.W.nsIn K mainGlobals (Str.ofString n) = some (some (.ref C))) (x : n ≠ "NoFall" → n ≠ "NoText" → PySem.W.excIn K C [.type "ValueError", .type "Exception", .type "BaseException", .type "object"] "ValueError.__new__" = true) (kp : PySem.W.keepIn K (.ref C) = true)
    (b : PySem.W.subIn K (.ref C) (.type "BaseException") = some true) (ty : PySem.W.typeIn K (.ref C) = some (.type "type")) (v : PySem.W.subIn K (.ref C) (.type "ValueError") = some true) (hd : PySem.W.hasDictIn K C = true)
    (hg : PySem.W.findIn K (.ref C) "__getattribute__" = some (some (.builtin "BaseException.__getattribute__"))) (hk : PySem.W.findIn K (.ref C) "__getattr__" = some none) (hc : PySem.W.findIn K (.ref C) "__class__" = some (some (.builtin "object.__class__")))
    (hm : PySem.W.mroIn K C (.type "object") = some true) (s0 : PySem.W.specialIn K (.builtin "object.__class__") "__get__" = some (some (.builtin "getset_descriptor.__get__"))) (t0 : PySem.W.takesIn K (.builtin "object.__class__") = some true) : ExG K mg n := by
  have g := PySem.W.mg_of X G a
  have e := clOf_of a
  subst e
  exact ⟨g, kp, b, ty, ⟨hg, hk, b, hd, hc, s0, t0, hm⟩, v, x⟩
theorem ox_mk {q g : Str} {st : Stmt} {f : Addr} {oc : Value} {od an : Option Addr} {osl : Array (Option Value)} {kV dc pm cdv ct : Value} {nm qn : Str} {N : Addr} {bs bm : List Value} {sn : List Str} {sub : List Value} {ab : Bool} {col : Option Bool} {dd : Option Addr} {k0 k1 k2 k3 k5 : Option Value}
    (X : PySem.W.Frag.In K h) (G : h.Ns mainGlobals mg) (fl : fieldOf n = g) (ca : PySem.W.nsIn K mainGlobals (Str.ofString n) = some (some (.ref C))) (co : K.lookup C = some (excClassObj nm qn C N bs bm true sn sub ab col dd k0 k1 k2 k3 k5 "ValueError.__new__")) (cr : PySem.HandSPX.refsVE bm = true)
    (sa : PySem.W.findIn K (.ref C) "__setattr__" = some (some (.builtin "object.__setattr__"))) (cb : PySem.W.subIn K (.ref C) (.type "BaseException") = some true) (ct' : PySem.W.typeIn K (.ref C) = some (.type "type")) (ck : PySem.W.keepIn K (.ref C) = true)
    (no : PySem.W.findIn K (.ref C) g = some none) (fi : PySem.W.findIn K (.ref C) "__init__" = some (some (.ref f))) (tf : PySem.W.typeIn K (.ref f) = some (.type "function"))
    (l : K.lookup f = some ⟨oc, od, .func (PySem.W.fnOf "__init__" q (defArgs st) (defBody st) (defScope st) .none kV dc pm an cdv ct), osl⟩) (c : PySem.W.codeIn K cdv q = true) (k : PySem.W.keepIn K (.ref f) = true)
    (bi : ∀ (kV doc pm : Value) (an : Option Addr) (cdv ct : Value) (us : List Value), us.length = 2 → bindArgs (PySem.W.fnOf "__init__" q (defArgs st) (defBody st) (defScope st) .none kV doc pm an cdv ct) ⟨us, []⟩ = pure ((["self", g] : List Str).zip us))
    (caF : PySem.W.nsIn K mainGlobals "FolkError" = some (some (.ref CF))) (rd : PySem.W.readsIn K CF (.type "type") = true) (ga : PySem.W.specialIn K (.ref CF) "__getattribute__" = some (some (.builtin "type.__getattribute__")))
    (fc : PySem.W.findCls K (.ref CF) (.type "type") "__init__" = some (.val (.builtin "ValueError.__init__"))) : OxF K mg n q st := by
  have gm := PySem.W.mg_of X G ca
  have e := clOf_of ca
  subst e fl
  have F : L2.Fun K "__init__" q st f _ := fun_mk l c k
  exact ⟨⟨⟨_, _, _, _, _, _, _, _, _, _, _, _, _, _, _, co, cr⟩, sa, cb, ct', ck⟩, no, gm, ⟨f, _, fi, tf, F, F.binds bi⟩, ⟨CF, PySem.W.mg_of X G caF, ⟨rd, ga⟩, fc⟩⟩
end
end DL

/-! DL86: texts: join, the signs of a text, a sign in a text, int of a text -/
noncomputable section
namespace DL
open PySem L2 PyProof.Rows
open Evl (Ex)
/-! ### join -/
def strsD : List PyData → Option (List Str)
  | [] => some []
  | .str x :: ds => (strsD ds).map (x :: ·)
  | _ :: _ => none
@[simp] theorem strsD_map {ys : List Str} : strsD (ys.map .str) = some ys := by
  induction ys with
  | nil => rfl
  | cons y ys ih => simp [strsD, ih]
theorem strs_rp {K : PySem.W.Frag} {G : Hp} : ∀ {ds : List PyData} {xs : List V} {ys : List Str}, RpAll K G xs ds → strsD ds = some ys → xs = ys.map V.str
  | [], _, ys, h, e => by
    cases h
    cases e
    rfl
  | d :: ds, _, ys, h, e => by
    cases h with
    | cons h1 h2 =>
      cases d with
      | str x =>
        cases q : strsD ds with
        | none => simp [strsD, q] at e
        | some zs =>
          simp [strsD, q] at e
          subst e
          cases h1
          rw [strs_rp h2 q]
          rfl
      | _ => simp [strsD] at e
def leJ (a : Str) (ys : List Str) : Prop := (ys.map (·.length)).sum + ys.length * a.length ≤ 16777216
instance (a : Str) (ys : List Str) : Decidable (leJ a ys) := Classical.propDecidable _
def kJoinB (a : Str) (y : R) (s : DSt) : Res R := match look y s with
  | some (.list ds) => (match strsD ds with
    | some ys => if leJ a ys then .ok (.val (.str (Txt.join a ys))) s else .stuck
    | none => .stuck)
  | _ => .stuck
@[simp] theorem y_kJoinB (a : Str) (y : R) (s : DSt) : kJoinB a y s = (match look y s with
  | some (.list ds) => (match strsD ds with
    | some ys => if leJ a ys then .ok (.val (.str (Txt.join a ys))) s else .stuck
    | none => .stuck)
  | _ => .stuck) := Eq.trans rfl rfl
def kJoinA (g : M R) (x : R) (s : DSt) : Res R := match look x s with
  | some (.str a) => (g s).bind (kJoinB a)
  | _ => .stuck
@[simp] theorem y_kJoinA {g : M R} {a : Str} {s : DSt} : kJoinA g (.val (.str a)) s = (g s).bind (kJoinB a) := Eq.trans rfl rfl
def fJoin (f g : M R) : M R := bnd f (kJoinA g)
@[simp] theorem x_join {f g : M R} {s : DSt} : fJoin f g s = (f s).bind (kJoinA g) := Eq.trans rfl rfl
section
variable {X : Cx} {cl : String → Addr} {W : WX} {a b e : Expr} {f g : M R} {pos : Pos}
theorem d_join {apos : Pos} (ha : DE X cl W a f) (hb : DE X cl W b g) (hs : starEach [b] X.env = [(false, eval b X.env)] := by rfl) (hbase : attributeBase a "join" X.env (eval a X.env) = eval a X.env := by rfl) (hline : (apos.endLine == pos.line) = true := by rfl) :
    DE X cl W (.Call (.Attribute a "join" apos) [b] [] pos) (fJoin f g) := by
  refine pe_imp (pe_join ha hb hs hbase hline) fun σ H Q ⟨G, s, S, q⟩ => ?_
  refine ⟨G, s, S, out_mono (out_bind q) fun r G1 s1 H1 st1 S1 k1 v rr => ?_⟩
  unfold kJoinA at k1
  split at k1
  · rename_i x e1
    obtain rfl := dq_str (look_q S1 rr e1)
    refine ⟨⟨x, rfl⟩, G1, s1, S1, out_mono (out_bind k1) fun r2 G2 s2 H2 st2 S2 k2 u ru => ?_⟩
    unfold kJoinB at k2
    split at k2
    · rename_i ds e2
      obtain ⟨p, xs, rfl, hp, hx⟩ := dq_lst (look_q S2 ru e2)
      split at k2
      · rename_i ys e3
        split at k2
        · rename_i hl
          obtain rfl := strs_rp hx e3
          exact ⟨x, p, ys, rfl, rfl, .inl (.of hp), hl, k2 _ _ Stp.refl S2 _ (.str _)⟩
        · exact k2.elim
      · exact k2.elim
    · exact k2.elim
  · exact k1.elim
end
/-! ### the signs of a text -/
def sgnD (x : Str) : List PyData := x.cps.toList.map fun c => PyData.str ⟨#[c]⟩
theorem it_str {K : PySem.W.Frag} {G : Hp} {x : Str} : ItOk K (Its x) (sgnD x) G := by
  intro G' s' σ' H' ex S i
  refine ⟨fun d e => ?_, fun hl => ?_⟩
  · unfold sgnD at e
    rw [List.getElem?_map] at e
    cases q : x.cps.toList[i]? with
    | none => rw [q] at e; cases e
    | some c =>
      rw [q] at e
      have e2 : d = .str ⟨#[c]⟩ := (Option.some.inj e).symm
      subst e2
      have hi : i < x.cps.size := by
        have := (List.getElem?_eq_some_iff.mp q).1
        simpa using this
      refine ⟨hi, fun v H2 ⟨h1, c', h2, h3⟩ => ?_⟩
      subst h1 h3
      have : x.cps[i]? = some c := by rw [← Array.getElem?_toList]; exact q
      rw [this] at h2
      cases h2
      exact ⟨G', Stp.refl, S, .str _⟩
  · show x.cps.size ≤ i
    unfold sgnD at hl
    rw [List.length_map] at hl
    simpa using hl
def kStrI (r : R) (s : DSt) : Res (List PyData) := match look r s with
  | some (.str x) => .ok (sgnD x) s
  | _ => .stuck
def fStrI (f : M R) : M (List PyData) := bnd f kStrI
@[simp] theorem x_strI {f : M R} {s : DSt} : fStrI f s = (f s).bind kStrI := Eq.trans rfl rfl
@[simp] theorem y_kStrI (r : R) (s : DSt) : kStrI r s = (match look r s with | some (.str x) => .ok (sgnD x) s | _ => .stuck) := Eq.trans rfl rfl
section
variable {X : Cx} {cl : String → Addr} {W : WX} {a b e tg : Expr} {f g : M R} {pos : Pos}
theorem i_str (h : DE X cl W e f) : DI X cl W tg e (fStrI f) := by
  refine pi_imp (pi_str h) fun σ H R ⟨G, s, S, q⟩ => ?_
  refine ⟨G, s, S, out_mono (out_bind q) fun r G1 s1 H1 st1 S1 k v rr => ?_⟩
  unfold kStrI at k
  split at k
  · rename_i x e1
    obtain rfl := dq_str (look_q S1 rr e1)
    exact ⟨x, rfl, k G1 H1 Stp.refl S1 _ it_str⟩
  · exact k.elim
end
/-! ### a sign in a text -/
def sgO (neg : Bool) (d e : PyData) : Option R := match d, e with
  | .str y, .str z => (match y.cps.toList with
    | [c] => some (.val (.bool (neg != decide (c ∈ z.cps.toList))))
    | _ => none)
  | _, _ => none
@[simp] theorem x_sgO {neg : Bool} {c : Nat} {z : Str} : sgO neg (.str ⟨#[c]⟩) (.str z) = some (.val (.bool (neg != decide (c ∈ z.cps.toList)))) := Eq.trans rfl rfl
def rSg (neg : Bool) : R2 := fun x y H Q => ∃ c z, x = .str ⟨#[c]⟩ ∧ y = .str z ∧ Q (.bl (neg != decide (c ∈ z.cps.toList))) H
section
variable {X : Cx}
theorem op_sgIn : OpR X (compareOp .In) (rSg false) := by
  intro pins s σ H x y v u Q I rx ry ⟨c, z, h1, h2, q⟩
  exact op_in_sign pins s σ H x y v u Q I rx ry ⟨c, z, h1, h2, by simpa using q⟩
theorem op_sgNot : OpR X (compareOp .NotIn) (rSg true) := by
  intro pins s σ H x y v u Q I rx ry ⟨c, z, h1, h2, q⟩
  exact op_notIn_sign pins s σ H x y v u Q I rx ry ⟨c, z, h1, h2, by simpa using q⟩
end
theorem opd_sg {K : PySem.W.Frag} {neg : Bool} : OpD K (rSg neg) (sgO neg) := by
  intro G H x y d e r Q ex hx hy ho k
  unfold sgO at ho
  split at ho
  · rename_i y' z
    split at ho
    · rename_i c ec
      cases ho
      obtain rfl := dq_str hx
      obtain rfl := dq_str hy
      have : y' = ⟨#[c]⟩ := by
        cases y' with
        | mk a =>
          congr 1
          exact Array.toList_inj.mp ec
      subst this
      exact ⟨c, z, rfl, rfl, k.1 _ (.bl _)⟩
    · cases ho
  · cases ho
section
variable {X : Cx} {cl : String → Addr} {W : WX} {a b : Expr} {f g : M R} {pos : Pos}
theorem d_sgIn (hm : behindInMarks .In b = false) (ha : DE X cl W a f) (hb : DE X cl W b g) : DE X cl W (.Compare a [.In] [b] pos) (fOp (lift2 (sgO false)) f g) := d_op2 (fun h1 h2 => pe_cmpR op_sgIn h1 h2 hm) (ops_lift opd_sg) ha hb
theorem t_sgNot (hm : behindInMarks .NotIn b = false) (ha : DE X cl W a f) (hb : DE X cl W b g) : DT X cl W (.Compare a [.NotIn] [b] pos) (fB (fOp (lift2 (sgO true)) f g)) := d_opT (fun h1 h2 => pt_cmpR op_sgNot h1 h2 hm) (ops_lift opd_sg) ha hb
end
/-! ### int of a text -/
def intTO : List PyData → Option R
  | [.str x] => (match PySem.intText? x with
    | some n => if x.length ≤ 640 then some (.val (.int n)) else none
    | none => none)
  | _ => none
theorem cd_intT {K : PySem.W.Frag} : CallD K (fun xs H Q => ∃ a n, xs = [V.str a] ∧ PySem.intText? a = some n ∧ a.length ≤ 640 ∧ Q (.int n) H) intTO := by
  intro G H vs ds r' Q ex hv ho k
  unfold intTO at ho
  split at ho
  · rename_i x
    split at ho
    · rename_i n en
      split at ho
      · rename_i hl
        cases ho
        cases hv with
        | cons h t =>
          cases t
          obtain rfl := dq_str h
          exact ⟨x, n, rfl, en, hl, k.1 _ (.int _)⟩
      · cases ho
    · cases ho
  · cases ho
end DL

/-! DL88: texts: slices, told so many times, replace -/
noncomputable section
namespace DL
open PySem L2 PyProof.Rows
open Evl (Ex)
/-! ### slices -/
def kSlT (lo hi : Option Int) (x : R) (s : DSt) : Res R := match look x s with
  | some (.str z) => if leS z.length then .ok (.val (.str (cutS z lo hi))) s else .stuck
  | _ => .stuck
@[simp] theorem y_kSlT (lo hi : Option Int) (x : R) (s : DSt) : kSlT lo hi x s = (match look x s with
  | some (.str z) => if leS z.length then .ok (.val (.str (cutS z lo hi))) s else .stuck
  | _ => .stuck) := Eq.trans rfl rfl
def kSlH (lo : Option Int) (x : R) (hi : Option Int) : M R := kSlT lo hi x
@[simp] theorem y_kSlH (lo : Option Int) (x : R) (hi : Option Int) (s : DSt) : kSlH lo x hi s = kSlT lo hi x s := Eq.trans rfl rfl
def kSlL (h : M (Option Int)) (x : R) (lo : Option Int) (s : DSt) : Res R := (h s).bind (kSlH lo x)
@[simp] theorem y_kSlL (h : M (Option Int)) (x : R) (lo : Option Int) (s : DSt) : kSlL h x lo s = (h s).bind (kSlH lo x) := Eq.trans rfl rfl
def kSlA (l h : M (Option Int)) (x : R) (s : DSt) : Res R := (l s).bind (kSlL h x)
@[simp] theorem y_kSlA (l h : M (Option Int)) (x : R) (s : DSt) : kSlA l h x s = (l s).bind (kSlL h x) := Eq.trans rfl rfl
def fSlT (f : M R) (l h : M (Option Int)) : M R := bnd f (kSlA l h)
@[simp] theorem x_slT {f : M R} {l h : M (Option Int)} {s : DSt} : fSlT f l h s = (f s).bind (kSlA l h) := Eq.trans rfl rfl
section
variable {X : Cx} {cl : String → Addr} {W : WX} {a b e : Expr} {f g : M R} {pos : Pos}
theorem d_slT {lo hi : Option Expr} {l h : M (Option Int)} {p2 : Pos} (ha : DE X cl W e f) (hl : DP X cl W lo l) (hh : DP X cl W hi h) : DE X cl W (.Subscript e (.Slice lo hi none p2) pos) (fSlT f l h) := by
  refine pe_imp (pe_slice sl_str ha hl hh) fun σ H Q ⟨G, s, S, q⟩ => ?_
  refine ⟨G, s, S, out_mono (out_bind q) fun x G1 s1 H1 st1 S1 q1 v1 r1 => ⟨G1, s1, S1, ?_⟩⟩
  have q1 : Out X.K cl W G1 s1 σ H1 ((l s1).bind (kSlL h x)) _ := q1
  refine out_mono (out_bind q1) fun lo G2 s2 H2 st2 S2 q2 => ⟨G2, s2, S2, ?_⟩
  have q2 : Out X.K cl W G2 s2 σ H2 ((h s2).bind (kSlH lo x)) _ := q2
  refine out_mono (out_bind q2) fun hi G3 s3 H3 st3 S3 q3 => ?_
  have r3 := (r1.mono st2).mono st3
  have q3 : Out X.K cl W G3 s3 σ H3 (kSlT lo hi x s3) _ := q3
  unfold kSlT at q3
  split at q3
  · rename_i z e
    obtain rfl := dq_str (look_q S3 r3 e)
    split at q3
    · rename_i hz
      exact ⟨z, rfl, hz, q3 _ _ Stp.refl S3 _ (.str _)⟩
    · exact q3.elim
  · exact q3.elim
end
/-! ### a text so many times -/
def inT (x : Str) (n : Int) : Prop := MulOk x n
instance (x : Str) (n : Int) : Decidable (inT x n) := Classical.propDecidable _
def mulSO : PyData → PyData → Option R
  | .str x, .int n => if inT x n then some (.val (.str (Txt.mul x n))) else none
  | _, _ => none
@[simp] theorem x_mulSO {x : Str} {n : Int} : mulSO (.str x) (.int n) = if inT x n then some (.val (.str (Txt.mul x n))) else none := Eq.trans rfl rfl
def rMulS : R2 := fun x y H Q => ∃ z n, x = .str z ∧ y = .int n ∧ MulOk z n ∧ Q (.str (Txt.mul z n)) H
theorem op_mulS {X : Cx} : OpR X (binaryOp .Mult) rMulS := by
  intro pins s σ H x y v u Q I rx ry ⟨z, n, h1, h2, hm, q⟩
  subst h1 h2
  obtain ⟨t, rfl⟩ := rx
  obtain ⟨t', rfl⟩ := ry
  exact PySem.SB.mul hm fun t' k => ⟨.str _, H, I.tok k, ⟨t', rfl⟩, q⟩
theorem opd_mulS {K : PySem.W.Frag} : OpD K rMulS mulSO := by
  intro G H x y d e r Q ex hx hy ho k
  unfold mulSO at ho
  split at ho
  · split at ho
    · rename_i hm
      cases ho
      obtain rfl := dq_str hx
      obtain rfl := dq_int hy
      exact ⟨_, _, rfl, rfl, hm, k.1 _ (.str _)⟩
    · cases ho
  · cases ho
section
variable {X : Cx} {cl : String → Addr} {W : WX} {a b e : Expr} {f g : M R} {pos : Pos}
theorem d_mulS (ha : DE X cl W a f) (hb : DE X cl W b g) : DE X cl W (.BinOp a .Mult b pos) (fOp (lift2 mulSO) f g) := d_op2 (pe_op op_mulS) (ops_lift opd_mulS) ha hb
/-! ### x[i].replace("..", "..") -/
theorem pe_replC {r : R2} {ta : TE} {i : Int} {y z : Str} {j0 j1 j2 : Nat} {c0 c1 c2 q0 apos : Pos} (hr : IxR X r) (ha : PE X a ta) (hpl : PlainIx (.Constant (.int i) j0 c0) := by first | exact fun _ _ => rfl | intro _ _; rfl)
    (hst : starEach [.Constant (.str y) j1 c1, .Constant (.str z) j2 c2] X.env = [(false, eval (.Constant (.str y) j1 c1) X.env), (false, eval (.Constant (.str z) j2 c2) X.env)] := by rfl)
    (hbase : attributeBase (.Subscript a (.Constant (.int i) j0 c0) q0) "replace" X.env (eval (.Subscript a (.Constant (.int i) j0 c0) q0) X.env) = eval (.Subscript a (.Constant (.int i) j0 c0) q0) X.env := by rfl) (hline : (apos.endLine == pos.line) = true := by rfl) :
    PE X (.Call (.Attribute (.Subscript a (.Constant (.int i) j0 c0) q0) "replace" apos) [.Constant (.str y) j1 c1, .Constant (.str z) j2 c2] [] pos)
      (fun σ H Q => tOp r ta (tC (.int i)) σ H fun v H1 => ∃ x, v = .str x ∧ (y == z) = false ∧ x.length + (x.length + 1) * z.length ≤ 16777216 ∧ Q (.str (Txt.replace x y z)) H1) := by
  refine ⟨fun pins s σ H Q I h => ?_⟩
  refine PySem.Call_method2 hbase hst hline (Subscript_ (thn (ha.run pins s σ H _ I h) fun v s1 ⟨x, H1, I1, r1, q1⟩ => ?_))
  refine wpAny_Constant_int ?_
  refine wpAny_mono (PySem.wpAny_toks (hr _ _ pins _ σ H1 x (.int i) v (.int i s1.toks) _ (I1.tok _) r1 ⟨_, rfl⟩ q1 (hpl _ _))) (fun w s3 z => ?_) fun _ _ x => x.2
  obtain ⟨hk, vx, H3, I3, r3, tx, h1, h2, h3, q3⟩ := z
  subst h1
  obtain ⟨t, rfl⟩ := r3
  have ht : 1 ≤ s3.toks := Nat.le_trans (Nat.le_add_left 1 s1.toks) hk
  refine ⟨"str", _, F.plainAttrs_str, F.slot_str_replace, F.type_str_replace, typeIs_str _ _ _, (fun _ e => nomatch e), Calls.callWith_builtin rfl (Calls.evalArgs_plain (Calls.spliced_cons (Calls.Constant_str ?_)))⟩
  refine Calls.spliced_cons (Calls.Constant_str ?_)
  refine Calls.spliced_nil ?_
  exact PySem.SC.replace (Nat.ne_of_gt ht) (Nat.succ_ne_zero _) (Nat.ne_of_lt (Nat.lt_succ_self _)) h2 h3 fun t' k => ⟨.str (Txt.replace tx y z), H3, I3.tok k, ⟨t', rfl⟩, q3⟩
def leR (x z : Str) : Prop := x.length + (x.length + 1) * z.length ≤ 16777216
instance (x z : Str) : Decidable (leR x z) := Classical.propDecidable _
def kRep (i : Int) (y z : Str) (r : R) (s : DSt) : Res R := match look r s with
  | some (.list ds) => (match atI ds i with
    | some (.str x) => if (y == z) = false ∧ leR x z then .ok (.val (.str (Txt.replace x y z))) s else .stuck
    | _ => .stuck)
  | _ => .stuck
@[simp] theorem y_kRep (i : Int) (y z : Str) (r : R) (s : DSt) : kRep i y z r s = (match look r s with
  | some (.list ds) => (match atI ds i with
    | some (.str x) => if (y == z) = false ∧ leR x z then .ok (.val (.str (Txt.replace x y z))) s else .stuck
    | _ => .stuck)
  | _ => .stuck) := Eq.trans rfl rfl
def fRep (i : Int) (y z : Str) (f : M R) : M R := bnd f (kRep i y z)
@[simp] theorem x_rep {i : Int} {y z : Str} {f : M R} {s : DSt} : fRep i y z f s = (f s).bind (kRep i y z) := Eq.trans rfl rfl
theorem d_rep {i : Int} {y z : Str} {j0 j1 j2 : Nat} {c0 c1 c2 q0 apos : Pos} (ha : DE X cl W a f) (hpl : PlainIx (.Constant (.int i) j0 c0) := by first | exact fun _ _ => rfl | intro _ _; rfl)
    (hst : starEach [.Constant (.str y) j1 c1, .Constant (.str z) j2 c2] X.env = [(false, eval (.Constant (.str y) j1 c1) X.env), (false, eval (.Constant (.str z) j2 c2) X.env)] := by rfl)
    (hbase : attributeBase (.Subscript a (.Constant (.int i) j0 c0) q0) "replace" X.env (eval (.Subscript a (.Constant (.int i) j0 c0) q0) X.env) = eval (.Subscript a (.Constant (.int i) j0 c0) q0) X.env := by rfl) (hline : (apos.endLine == pos.line) = true := by rfl) :
    DE X cl W (.Call (.Attribute (.Subscript a (.Constant (.int i) j0 c0) q0) "replace" apos) [.Constant (.str y) j1 c1, .Constant (.str z) j2 c2] [] pos) (fRep i y z f) := by
  refine pe_imp (pe_replC ix_seq ha hpl hst hbase hline) fun σ H Q ⟨G, s, S, q⟩ => ?_
  refine ⟨G, s, S, out_mono (out_bind q) fun r G1 s1 H1 st1 S1 k v rr => ?_⟩
  unfold kRep at k
  split at k
  · rename_i ds e
    obtain ⟨p, xs, rfl, hp, hx⟩ := dq_lst (look_q S1 rr e)
    split at k
    · rename_i x ex
      split at k
      · rename_i hh
        obtain ⟨u, e1, r1⟩ := atI_rp hx ex
        cases r1
        exact .inl ⟨p, xs, i, .str x, rfl, rfl, .of hp, e1, x, rfl, hh.1, hh.2, k _ _ Stp.refl S1 _ (.str _)⟩
      · exact k.elim
    · exact k.elim
  · exact k.elim
end
end DL

/-! DL89: for x in e: S1; S2; y.append(c), y a list of errors that is grown -/
noncomputable section
namespace DL
open PySem L2 PyProof.Rows
open Evl (Ex)
open Classical in
def runH (j c : Nat) (n : String) (bd : Bd) (p1 p2 : DSt → Flow) : List PyData → List Int → DSt → Option (List Int × DSt)
  | [], is, s => some (is, s)
  | d :: ds, is, s => match bd d s with
    | none => none
    | some s1 => match p1 s1 with
      | .next s2 => (match p2 s2 with
        | .next s3 => (match s3.d[c]? with
          | some (.ob (.exc ⟨m, some (.int i)⟩)) => if m = n ∧ ltS is.length ∧ s3.d[j]? = s.d[j]? then runH j c n bd p1 p2 ds (is ++ [i]) s3 else none
          | _ => none)
        | _ => none)
      | _ => none
def okH (j c : Nat) (n : String) (bd : Bd) (p1 p2 : DSt → Flow) (ds : List PyData) (s : DSt) (r : List Int × DSt) : Prop := ∀ a : Addr, runH j c n bd p1 p2 ds [] (putS j (.raw (.ref a)) s) = some (r.1, putS j (.raw (.ref a)) r.2)
open Classical in
def kForH (j c : Nat) (n : String) (bd : Bd) (p1 p2 : DSt → Flow) (ds : List PyData) (s : DSt) : Flow := match s.d[j]? with
  | some (.own []) => if h : ∃ r, okH j c n bd p1 p2 ds s r then .next (putS j (.ob (.excs n (Classical.choose h).1)) (Classical.choose h).2) else .stuck
  | _ => .stuck
def fForH (j c : Nat) (n : String) (fi : M (List PyData)) (bd : Bd) (p1 p2 : DSt → Flow) : DSt → Flow := fun s => onRes (fi s) (kForH j c n bd p1 p2)
theorem kForH_ok {j c : Nat} {n : String} {bd : Bd} {p1 p2 : DSt → Flow} {ds : List PyData} {s : DSt} {is : List Int} {s' : DSt} (h0 : s.d[j]? = some (.own [])) (h : okH j c n bd p1 p2 ds s (is, s')) : kForH j c n bd p1 p2 ds s = .next (putS j (.ob (.excs n is)) s') := by
  have hx : ∃ r, okH j c n bd p1 p2 ds s r := ⟨_, h⟩
  unfold kForH
  rw [h0]
  dsimp only
  rw [dif_pos hx]
  have e1 := Classical.choose_spec hx 0
  have e2 := h 0
  rw [e2] at e1
  have e3 := Option.some.inj e1
  have e4 := (Prod.mk.inj e3).1
  have e5 := (Prod.mk.inj e3).2
  dsimp only at e4 e5
  rw [← e4]
  have : putS j (.ob (.excs n is)) s' = putS j (.ob (.excs n is)) (Classical.choose hx).2 := by
    have := congrArg (putS j (.ob (.excs n is))) e5
    simpa [putS, List.set_set] using this
  rw [this]
/-! ### a call of a def without names -/
section
variable {X : Cx} {cl : String → Addr} {W : WX} {e a b : Expr} {es : List Expr} {f g : M R} {fs : M (List R)} {pos : Pos} {p q : DSt → Flow}
theorem pe_callG0 {CX : CXT} {k : Nat} {f : Addr} {fd : FuncData} {ps : List Str} {sp : Sp} {E : L2.St → XK} {x : Str} {p : Pos} (F : FnG X.prog X.w X.K X.mg X.base CX k f fd ps sp) (hr : RoomG k X.A) (hg : Gl X x) (hm : X.mg x = some (.ref f)) (hk : PySem.W.keepIn X.K (.ref f) = true) (hb : Binds X.K fd ps []) (hx : ∀ σ, PassesAt CX X σ (E σ))
    (hdb : (x == ("__debug__" : Str)) = false := by decide) : PE X (.Call (.Name x p) [] [] pos) (tCallS sp E tNil) :=
  ⟨fun pins st σ H Q I h => wpAny_Call_Name_kw (ld_glob I hg hm (PySem.W.callWith_K0 I.kIn hk (run_G (us := []) F hr hb (hx σ) I .nil h)) hdb)⟩
theorem d_cal0 {F : List R → Pw → FRes} {k : Nat} {ps : List Str} {x : Str} {p : Pos} (h : Cal X.prog X.w X.K X.mg X.base cl x k ps F) (hr : RoomG k X.A) (hx : ∀ σ, PassesAt (L2.CX X.prog X.w) X σ (WE W σ)) (hg : Gl X x := by rfl) (hdb : (x == ("__debug__" : Str)) = false := by decide) :
    DE X cl W (.Call (.Name x p) [] [] pos) (fUser F fNil) := by
  obtain ⟨f, fd, ok, g, kp, b⟩ := h
  refine pe_imp (pe_callG0 ok hr hg g kp b hx hdb) fun σ H Q q => ?_
  obtain ⟨G, s, S, q⟩ := user_reads q
  exact q G H Stp.refl S [] .nil
end
/-! ### the loop -/
section
variable {X : Cx} {cl : String → Addr} {W : WX} {e a b c tg iter : Expr} {es : List Expr} {f g : M R} {fs : M (List R)} {fi : M (List PyData)} {pos : Pos} {p q : DSt → Flow}
theorem exall_snoc {K : PySem.W.Frag} {H : Hp} {n : String} {b d : Addr} {i : Int} (h1 : H b = some (excO b (.ref (clOf K n)) (some d))) (h2 : H d = some (.xd [(fieldOf n, .int i)])) : ∀ {vs : List V} {is : List Int}, ExAll K H n vs is → ExAll K H n (vs ++ [.ref b]) (is ++ [i])
  | _, _, .nil => .cons h1 h2 .nil
  | _, _, .cons a b t => .cons a b (exall_snoc h1 h2 t)
theorem sa_know {K : PySem.W.Frag} {G H : Hp} {s : DSt} {σ : L2.St} {l : Addr} {o : HO} (S : SA K G s σ H) (h : H l = some o) (hg : G l = none) (hn : ¬ Own s σ l) : SA K (upd G l o) s σ H := by
  have ex : Ex G (upd G l o) := fun a u e => by rw [upd_ne fun z => by subst z; rw [hg] at e; cases e]; exact e
  refine ⟨S.len, fun a u e => ?_, fun i sl e => ?_, S.inj, fun i a z => ?_, pwok_to S.pw (fun _ _ h _ => h) (fun _ _ h => h) fun a z => ?_, S.pne⟩
  · by_cases q : a = l
    · subst q; rw [upd_same] at e; cases e; exact h
    · rw [upd_ne q] at e; exact S.gh a u e
  · have q := S.slot i sl e
    cases sl with
    | no => trivial
    | val d => obtain ⟨v, e1, e2⟩ := q; exact ⟨v, e1, dp_mono ex _ _ e2⟩
    | raw v => exact q
    | ob o => obtain ⟨v, e1, e2⟩ := q; exact ⟨v, e1, ob_mono ex e2⟩
    | own es => obtain ⟨a, xs, e1, e2, e3⟩ := q; exact ⟨a, xs, e1, e2, dps_mono ex _ _ e3⟩
  · rw [upd_ne fun q => by subst q; exact hn (.inl ⟨i, z⟩)]; exact S.ownG i a z
  · rw [upd_ne fun q => by subst q; exact hn (.inr z)]; exact G_pown S.pw z
theorem s_forH {n : String} {j c : Nat} {S1 S2 : Stmt} {p1 p2 : DSt → Flow} {gg : TG} {bd : Bd} {js : List Nat} {x z : Expr} {ap cp epos : Pos} (hp : PassesOwn (model X.prog X.w) X.A X.env X.xe) (hc : X.calm = true) (hi : DI X cl W tg iter fi) (hg : PG X tg gg) (ho : GOk X.K gg bd js) (hb1 : DS X cl W S1 p1) (hb2 : DS X cl W S2 p2)
    (hx : PE X x (tVar j)) (hz : PE X z (tVar c))
    (hbase : attributeBase x "append" X.env (eval x X.env) = eval x X.env := by rfl)
    (hfew : ((backTo cp (starEach [z] X.env)).all (fun x => !x.1) && (backToKw cp (keywordEach [] X.env)).all (fun x => x.1.isSome) && decide (([z] : List Expr).length + ([] : List Keyword).length + (if ([] : List Keyword).isEmpty then 0 else 1) < 30)) = true := by rfl)
    (hline : (ap.endLine == cp.line) = true := by rfl) (hs1 : starEach [z] X.env = (false, eval z X.env) :: starEach [] X.env := by rfl) (hplain : (backTo cp (starEach [] X.env)).any (·.1) = false := by rfl)
    (hsw : swapsWith (.Call (.Attribute x "append" ap) [z] [] cp) none epos.line X.env = pure false := by rfl)
    (hs : ∀ x, foldedSetIterable iter X.env x = pure x := by intro _; rfl) :
    DS X cl W (.For tg iter [S1, S2, .Expr (.Call (.Attribute x "append" ap) [z] [] cp) epos] [] pos) (fForH j c n fi bd p1 p2) := by
  have hap := ps_expr (pe_bm PySem.F.plainAttrs_list PySem.F.slot_list_append PySem.F.type_list_append mt_append hx (pa_cons hz pa_nil hs1) hbase hfew hline hs1 hplain) hsw
  refine ps_imp (ps_for hp hc hi hg (pss_cons hb1 (pss_cons hb2 (pss_cons hap pss_nil))) hs) fun D σ H ⟨G, s, S, h⟩ => ⟨G, s, S, out_mono (fout_res h) fun ds G1 s1 H1 st1 S1 k J hJ => ?_⟩
  have k := fout_shift st1 k
  unfold kForH at k
  split at k
  rotate_left
  · exact k.elim
  rename_i h0
  split at k
  rotate_left
  · exact k.elim
  rename_i hex
  obtain ⟨l, xs0, el, hl0, hd0⟩ := own_at S1 h0
  cases hd0
  have run := Classical.choose_spec hex l
  obtain ⟨r, hr⟩ : ∃ r, Classical.choose hex = r := ⟨_, rfl⟩
  rw [hr] at run k
  have jl : j < s1.d.length := (List.getElem?_eq_some_iff.mp h0).1
  have own1 : OwnAt s1 σ j l := ⟨⟨_, h0⟩, el⟩
  have gl : G1 l = none := S1.ownG j l own1
  have es : σ.set j (some (V.ref l)) = σ := by
    refine List.ext_getElem? fun i => ?_
    by_cases q : i = j
    · subst q
      rw [List.getElem?_set_self (by rw [← S1.len]; exact jl), el]
    · rw [List.getElem?_set_ne (Ne.symm q)]
  have S1' : SA X.K G1 (putS j (.raw (.ref l)) s1) σ H1 := by
    have := put_ok (x := .raw (.ref l)) (v := .ref l) S1 jl rfl fun _ _ z => by cases z
    rw [es] at this
    exact this
  have at1 : ∀ i, i ≠ j → (putS j (.raw (.ref l)) s1).d[i]? = s1.d[i]? := fun i hi => by simp [putS, List.getElem?_set_ne (Ne.symm hi)]
  have atj : (putS j (.raw (.ref l)) s1).d[j]? = some (.raw (.ref l)) := by simp [putS, jl]
  have ownB : ∀ b, Own (putS j (.raw (.ref l)) s1) σ b → Own s1 σ b ∧ b ≠ l := fun b z => by
    rcases z with ⟨i, ⟨es', z1⟩, z2⟩ | z
    · by_cases q : i = j
      · subst q; rw [atj] at z1; cases z1
      · rw [at1 i q] at z1
        refine ⟨.inl ⟨i, ⟨es', z1⟩, z2⟩, fun w => q ?_⟩
        subst w
        exact S1.inj i j b ⟨⟨es', z1⟩, z2⟩ own1
    · exact ⟨.inr z, fun w => by subst w; exact S1.pne j b own1 z⟩
  have st0 : Stp G1 s1 σ H1 G1 (putS j (.raw (.ref l)) s1) σ H1 := ⟨Ex.refl G1, fun _ _ h _ => ⟨h, rfl⟩, fun b z => .inl (ownB b z).1, fun _ h => h, fun _ h => h⟩
  refine ⟨fun i m σ2 H2 => ∃ G2 s2 is vs, SA X.K G2 s2 σ2 H2 ∧ Stp G1 s1 σ H1 G2 s2 σ2 H2 ∧ H2 l = some (.lst vs) ∧ G2 l = none ∧ ¬ Own s2 σ2 l ∧ s2.d[j]? = some (.raw (.ref l)) ∧ ExAll X.K G2 n vs is ∧ m = ds.length - i ∧ i ≤ ds.length ∧ runH j c n bd p1 p2 (ds.drop i) is s2 = some (r.1, putS j (.raw (.ref l)) r.2),
    ⟨ds.length, G1, _, [], [], S1', st0, hl0, gl, fun z => (ownB l z).2 rfl, atj, .nil, by simp, Nat.zero_le _, by simpa using run⟩, ?_⟩
  rintro i m σ2 H2 ⟨G2, s2, is, vs, S2, st2, hl2, gl2, nl2, sj2, ex2, rfl, hi, k2⟩
  obtain ⟨j1, j2⟩ := hJ G2 s2 σ2 H2 st2.ex S2 i
  by_cases hl : i < ds.length
  · obtain ⟨go, yl⟩ := j1 ds[i] (List.getElem?_eq_getElem hl)
    rw [List.drop_eq_getElem_cons hl] at k2
    refine .inr ⟨go, fun σ3 H3 => ∃ G3 s3 is vs, SA X.K G3 s3 σ3 H3 ∧ Stp G1 s1 σ H1 G3 s3 σ3 H3 ∧ H3 l = some (.lst vs) ∧ G3 l = none ∧ ¬ Own s3 σ3 l ∧ s3.d[j]? = some (.raw (.ref l)) ∧ ExAll X.K G3 n vs is ∧ runH j c n bd p1 p2 (ds.drop (i + 1)) is s3 = some (r.1, putS j (.raw (.ref l)) r.2), fun σ3 H3 ⟨G3, s3, is, vs, a1, a2, a3, a4, a5, a6, a7, a8⟩ => ⟨ds.length - (i + 1), by omega, G3, s3, is, vs, a1, a2, a3, a4, a5, a6, a7, rfl, hl, a8⟩, fun x H3 y => ?_⟩
    obtain ⟨G3, st3, S3, rp⟩ := yl x H3 y
    unfold runH at k2
    cases q : bd ds[i] s2 with
    | none => rw [q] at k2; cases k2
    | some s4 =>
      rw [q] at k2
      refine ho x ds[i] G3 s2 σ2 H3 s4 _ S3 rp q fun σ4 l4 n4 m4 w4 st4 S4 => ⟨G3, s4, S4, ?_⟩
      dsimp only at k2
      cases z1 : p1 s4 with
      | brk s5 => rw [z1] at k2; cases k2
      | cnt s5 => rw [z1] at k2; cases k2
      | ret r s5 => rw [z1] at k2; cases k2
      | err x s5 => rw [z1] at k2; cases k2
      | stuck => rw [z1] at k2; cases k2
      | next s5 =>
      rw [z1] at k2
      intro G5 σ5 H5 st5 S5
      refine ⟨G5, s5, S5, ?_⟩
      dsimp only at k2
      cases z2 : p2 s5 with
      | brk s6 => rw [z2] at k2; cases k2
      | cnt s6 => rw [z2] at k2; cases k2
      | ret r s6 => rw [z2] at k2; cases k2
      | err x s6 => rw [z2] at k2; cases k2
      | stuck => rw [z2] at k2; cases k2
      | next s6 =>
      rw [z2] at k2
      intro G6 σ6 H6 st6 S6
      dsimp only at k2
      split at k2
      rotate_left
      · cases k2
      rename_i m' i' ec
      split at k2
      rotate_left
      · cases k2
      rename_i hh
      obtain ⟨rfl, hlt, hj6⟩ := hh
      have stA := ((st3.trans st4).trans st5).trans st6
      obtain ⟨hl6, gl6⟩ := stA.keep l _ hl2 nl2
      have nl6 : ¬ Own s6 σ6 l := fun z => (stA.own l z).elim nl2 fun z => by rw [hl2] at z; cases z
      have sj6 : s6.d[j]? = some (.raw (.ref l)) := by rw [hj6]; exact sj2
      have ej6 : σ6[j]? = some (some (.ref l)) := by
        have := S6.slot j _ sj6
        have e : (σ6[j]?).join = some (V.ref l) := this
        cases w : σ6[j]? with
        | none => rw [w] at e; cases e
        | some o => rw [w] at e; simp at e; rw [e]
      obtain ⟨v, ev, b, d, rfl, hb, dd, u, e1, e2, e3⟩ := S6.slot c _ ec
      cases e3
      have ec6 : σ6[c]? = some (some (.ref b)) := by
        cases w : σ6[c]? with
        | none => rw [w] at ev; cases ev
        | some o => rw [w] at ev; simp at ev; rw [ev]
      cases e1
      have ex6 := exall_mono stA.ex ex2
      refine ⟨.ref l, ej6, .inl ⟨rfl, _, .of hl6⟩, .ref b, ec6, l, vs, .ref b, rfl, rfl, hl6, by rw [exall_len ex2]; exact hlt, ?_⟩
      have neB : ∀ a o, G6 a = some o → a ≠ l := fun a o w z => by subst z; rw [gl6, gl2] at w; cases w
      refine ⟨G6, s6, is ++ [i'], vs ++ [.ref b], sa_write S6 (gl6.trans gl2) nl6 (fun φ w => by rw [hl6] at w; cases w), ?_, upd_same, gl6.trans gl2, nl6, sj6, exall_snoc hb e2 ex6, k2⟩
      have stB := st2.trans stA
      refine ⟨stB.ex, fun a o w nw => ?_, stB.own, fun a w => ?_, stB.pw⟩
      · have ne : a ≠ l := fun z => nw (by subst z; exact .inl ⟨j, own1⟩)
        rw [upd_ne ne]
        exact stB.keep a o w nw
      · by_cases ne : a = l
        · subst ne; rw [upd_same]; simp
        · rw [upd_ne ne]; exact stB.dom a w
  · have e : i = ds.length := by omega
    subst e
    rw [List.drop_length] at k2
    refine .inl ⟨j2 (Nat.le_refl _), ?_⟩
    have k2 := Option.some.inj k2
    have ei : is = r.1 := (Prod.mk.inj k2).1
    have e2 : s2 = putS j (.raw (.ref l)) r.2 := (Prod.mk.inj k2).2
    have SK := sa_know S2 hl2 gl2 nl2
    have exK : Ex G2 (upd G2 l (.lst vs)) := fun a u e => by rw [upd_ne fun z => by subst z; rw [gl2] at e; cases e]; exact e
    have stK : Stp G1 s1 σ H1 (upd G2 l (.lst vs)) s2 σ2 H2 := ⟨st2.ex.trans exK, fun a o w nw => by
      obtain ⟨w1, w2⟩ := st2.keep a o w nw
      exact ⟨w1, by rw [upd_ne fun z => nw (by subst z; exact .inl ⟨j, own1⟩)]; exact w2⟩, st2.own, st2.dom, st2.pw⟩
    have jl2 : j < s2.d.length := (List.getElem?_eq_some_iff.mp sj2).1
    have ej2 : σ2[j]? = some (some (.ref l)) := by
      have e : (σ2[j]?).join = some (V.ref l) := S2.slot j _ sj2
      cases w : σ2[j]? with
      | none => rw [w] at e; cases e
      | some o => rw [w] at e; simp at e; rw [e]
    have es2 : σ2.set j (some (V.ref l)) = σ2 := by
      refine List.ext_getElem? fun i => ?_
      by_cases q : i = j
      · subst q
        rw [List.getElem?_set_self (by rw [← S2.len]; exact jl2), ej2]
      · rw [List.getElem?_set_ne (Ne.symm q)]
    have hob : ObRel X.K (upd G2 l (.lst vs)) (.ref l) (.excs n is) := ⟨l, vs, rfl, upd_same, exall_mono exK ex2⟩
    have S3 := put_ok (x := .ob (.excs n is)) (v := .ref l) SK jl2 ⟨_, rfl, hob⟩ fun _ _ z => by cases z
    have st3 := put_stp (x := .ob (.excs n is)) (v := .ref l) SK stK jl2 fun _ _ z => by cases z
    rw [es2] at S3 st3
    have e4 : putS j (.ob (.excs n is)) s2 = putS j (.ob (.excs n r.1)) r.2 := by rw [ei, e2]; simp [putS, List.set_set]
    rw [e4] at S3 st3
    exact k _ _ _ st3 S3
end
/-! ### [x.f for x in e if x is not None] -/
section
variable {X : Cx} {cl : String → Addr} {W : WX} {e a b c x y iter : Expr} {es : List Expr} {f g : M R} {fs : M (List R)} {pos : Pos} {n : String} {x : Str}
theorem fldsN_reads {K : PySem.W.Frag} {mg : Str → Option Value} {vs : List Nat} {i : Nat} (T : ExG K mg n) (hno : PySem.W.findIn K (.ref (clOf K n)) (fieldOf n) = some none) (hj : i ∈ vs) {σ : L2.St} {H : Hp} {Q : VK} (q : tD K cl W (fFlds n i f) σ H Q) :
    tLc (iSeq K (tD K cl W f)) (gName i) (tB (tNotN (tVar i))) (tXfT K (fieldOf n) (tVar i)) vs σ H Q := by
  obtain ⟨G, s, S, q⟩ := q
  refine ⟨G, s, S, out_mono (out_bind q) fun r G1 s1 H1 st1 S1 k v rr => ?_⟩
  split at k
  rotate_left
  · exact k.elim
  rename_i m is
  split at k
  rotate_left
  · exact k.elim
  rename_i hh
  obtain ⟨rfl, hz, hi⟩ := hh
  obtain ⟨a, us, rfl, hga, hall⟩ := rr
  have hHa := S1.gh _ _ hga
  refine .inl ⟨a, rfl, ⟨us, .of hHa⟩, fun D hD => ?_⟩
  have nDa : a ≠ D := fun z => by rw [z, hD] at hHa; cases hHa
  have hlu := exall_len hall
  have keep : ∀ {b : Addr} {o u : HO}, G1 b = some o → upd H1 D u b = some o := fun {b o u} e => by
    have e2 := S1.gh _ _ e
    rw [upd_ne (ne_of_none e2 hD)]
    exact e2
  refine ⟨fun j l H2 => H2 = upd H1 D (.lst ((is.take j).map V.int)) ∧ l = is.length - j ∧ j ≤ is.length, ⟨is.length, by simp, by simp, Nat.zero_le _⟩, ?_⟩
  rintro j l H2 ⟨rfl, rfl, hj2⟩
  have hl : SqL K (upd H1 D (.lst ((is.take j).map V.int))) a us := .of (keep hga)
  by_cases hlt : j < is.length
  · have hju : j < us.length := by rw [hlu]; exact hlt
    refine .inr ⟨⟨us, us[j], hl, by simp [hju]⟩, fun H3 => H3 = upd H1 D (.lst ((is.take (j + 1)).map V.int)), fun H3 e => ⟨is.length - (j + 1), by omega, e, rfl, hlt⟩, fun x H3 ⟨e3, y⟩ => ?_⟩
    subst e3
    obtain ⟨b, d, z, ex, ez, h1, h2⟩ := exall_get hall (y us hl)
    subst ex
    have hlen : i < (wipe σ vs).length := by rw [wipe_length, ← S1.len]; exact hi
    refine ⟨(wipe_same (by simp) fun k hk => by rw [List.getElem?_set_ne (by rintro rfl; exact hk hj)]).trans (wipe_wipe σ vs), ?_⟩
    refine ⟨.ref b, List.getElem?_set_self hlen, true, rfl, ?_⟩
    show tXfT K (fieldOf m) (tVar i) _ _ _
    refine ⟨.ref b, List.getElem?_set_self hlen, b, _, d, _, .int z, rfl, keep h1, xfc_of T.c, hno, keep h2, by simp [List.lookup], (is.take j).map V.int, upd_same, ?_, ?_⟩
    · have hz : is.length ≤ sizeLine := hz
      simp only [List.length_map, List.length_take]
      omega
    · have e5 : is.take (j + 1) = is.take j ++ [z] := by rw [List.take_succ, ez]; rfl
      rw [e5]
      funext c
      by_cases hc : c = D
      · subst hc; simp [upd_same]
      · rw [upd_ne hc, upd_ne hc, upd_ne hc]
  · have e : j = is.length := by omega
    subst e
    refine .inl ⟨⟨us, hl, by rw [hlu]; exact Nat.le_refl _⟩, ?_⟩
    rw [List.take_length]
    obtain ⟨st2, S2, rr2⟩ := new_list (p := D) (vs := is.map V.int) (ds := is.map PyData.int) S1 hD (rp_ints is) st1.dom
    exact k _ _ st2 S2 _ rr2
theorem d_fldsN {apos epos tpos qpos cn spos : Pos} {jn : _} {scope : Scope} {own : List (Str × Nat)} {g : Str} {i : Nat} (hc : X.calm = true) (hN : X.N.Nodup) (he : DE X cl W iter f) (ok : BlkOk X.N X.env.scope scope own) (hj : i ∈ own.map (·.2)) (T : ExG X.K X.mg n) (hno : PySem.W.findIn X.K (.ref (clOf X.K n)) (fieldOf n) = some none) (hf : fieldOf n = g)
    (hg : ∀ (s : Shared) (H : Hp) (C : Addr) (cl : List (Str × Addr)) (fp : List Addr), PG (X.blk s H scope (compEnvC scope cl C X.env) fp) (.Name x tpos) (gName i)) 
    (hv : ∀ (s : Shared) (H : Hp) (C : Addr) (clo : List (Str × Addr)) (fp : List Addr), PE (X.blk s H scope (compEnvC scope clo C X.env) fp) (.Name x epos) (tVar i))
    (hq : ∀ (s : Shared) (H : Hp) (C : Addr) (clo : List (Str × Addr)) (fp : List Addr), PE (X.blk s H scope (compEnvC scope clo C X.env) fp) (.Name x qpos) (tVar i))
    (hb : ∀ (s : Shared) (H : Hp) (C : Addr) (clo : List (Str × Addr)) (fp : List Addr), attributeBase (.Name x epos) g (compEnvC scope clo C X.env) (eval (.Name x epos) (compEnvC scope clo C X.env)) = eval (.Name x epos) (compEnvC scope clo C X.env)) (hs : ∀ x, foldedSetIterable iter X.env x = pure x := by intro _; rfl) :
    DE X cl W (.ListComp (.Attribute (.Name x epos) g apos) [⟨.Name x tpos, iter, [.Compare (.Name x qpos) [.IsNot] [.Constant .none jn cn] spos], 0⟩] scope pos) (fFlds n i f) := by
  subst hf
  exact pe_imp (pe_lc hc hN (pi_seq he) ok hg (fun s H C clo fp => pts_one (pt_cmp (pc_notN (hq s H C clo fp)))) (fun s H C clo fp => pe_xfT (hv s H C clo fp) (hb s H C clo fp)) hs) fun σ H Q q => fldsN_reads T hno hj q
end
section
variable {s : DSt} {f : M R}
@[simp] theorem x_forH {j c : Nat} {n : String} {fi : M (List PyData)} {bd : Bd} {p1 p2 : DSt → Flow} : fForH j c n fi bd p1 p2 s = onRes (fi s) (kForH j c n bd p1 p2) := Eq.trans rfl rfl
end
end DL

noncomputable section
namespace DL
open PySem L2
def b_law_purse_1 : DSt → Flow := fIfS (fB (fOp (lift2 geO) (fCall absO (pCons (fOp (lift2 ixO) (fVar 1) (fVar 2)) fNil)) (fOp (lift2 powO) (fC (.int 10)) (fC (.int 18))))) (fSetIx 1 (fOp (lift2 modO) (fOp (lift2 ixO) (fVar 1) (fVar 2)) (fOp (lift2 powO) (fOp (lift2 powO) (fC (.int 10)) (fC (.int 60))) (fC (.int 20)))) (fVar 2)) fnext
abbrev o_law_purse_1 : List PyData → DSt → Flow := loopF (bName 2) b_law_purse_1
def p_law_purse : DSt → Flow := fseq (fFor (fRng1 (pCons (fCall lenO (pCons (fVar 1) fNil)) fNil)) (bName 2) b_law_purse_1) (fseq (fIfS (fB (fOp (lift2 eqO) (fVar 1) (fLst fNil))) (fSet 1 (fLst (fCons (fC (.int 0)) fNil))) fnext) (fRet (fLst (fCons (fVar 1) (fCons (fC (.int 0)) fNil)))))
def F_law_purse : List R → Pw → FRes := runF 3 1 p_law_purse
def p_law_draw : DSt → Flow := fseq (fUnP 0 2 3) (fseq (fSet 4 (fOp (lift2 modO) (fVar 3) (fLenC 2))) (fseq (fSet 5 (fIxC 2 (fVar 4))) (fseq (fSetT 0 (fOp (lift2 addO) (fVar 3) (fC (.int 1)))) (fseq (fIfS (fB (fOp (lift2 geO) (fVar 5) (fOp (lift2 powO) (fC (.int 10)) (fC (.int 18))))) (fseq (fSetC 2 (fOp (lift2 fdivO) (fVar 5) (fVar 1)) (fVar 4)) (fRet (fOp (lift2 modO) (fVar 5) (fVar 1)))) fnext) (fseq (fSet 6 (fOp (lift2 modO) (fOp (lift2 addO) (fOp (lift2 addO) (fOp (lift2 mulO) (fOp (lift2 modO) (fVar 5) (fC (.int 2147483629))) (fC (.int 48271))) (fOp (lift2 mulO) (fOp (lift2 mulO) (fVar 3) (fVar 3)) (fC (.int 69621)))) (fC (.int 11))) (fC (.int 2147483647)))) (fseq (fSet 6 (fOp (lift2 modO) (fOp (lift2 mulO) (fVar 6) (fVar 6)) (fC (.int 2147483629)))) (fseq (fSet 6 (fOp (lift2 modO) (fOp (lift2 mulO) (fVar 6) (fVar 6)) (fC (.int 2147483587)))) (fseq (fIfS (fB (fOp (lift2 gtO) (fVar 1) (fOp (lift2 powO) (fC (.int 10)) (fC (.int 9))))) (fseq (fSet 7 (fOp (lift2 modO) (fOp (lift2 addO) (fOp (lift2 addO) (fOp (lift2 mulO) (fVar 6) (fC (.int 39373))) (fOp (lift2 mulO) (fVar 3) (fC (.int 7919)))) (fC (.int 500))) (fC (.int 2147483629)))) (fSet 6 (fOp (lift2 mulO) (fVar 6) (fOp (lift2 addO) (fOp (lift2 mulO) (fOp (lift2 mulO) (fVar 7) (fVar 7)) (fVar 7)) (fC (.int 1)))))) fnext) (fRet (fOp (lift2 modO) (fVar 6) (fVar 1)))))))))))
def F_law_draw : List R → Pw → FRes := runF 8 2 p_law_draw
def WP (pa : Addr) (w : Pw) (m : Int) : Prop := ∃ (ca : Addr) (cells : List Int) (t : Int), pa ≠ ca ∧ w = some (pa, ca, cells, t) ∧ cells ≠ [] ∧ 0 ≤ t ∧ t ≤ m
theorem WP.mono {pa : Addr} {w : Pw} {m m' : Int} (h : WP pa w m) (h2 : m ≤ m') : WP pa w m' := by
  obtain ⟨ca, cells, t, ne, e, hc, t0, tm⟩ := h
  exact ⟨ca, cells, t, ne, e, hc, t0, by omega⟩
theorem z18 :  powO (.int 10) (.int 18) = some (.val (.int 1000000000000000000)) := by
    simp
end DL

noncomputable section
namespace DL
open PySem L2
def c_law_mixed_1 : M Bool := fB (fOp (lift2 neO) (fVar 2) (fLst fNil))
def b_law_mixed_2 : DSt → Flow := fDrop (fApp 3 (fPopAt 2 (fUser F_law_draw (fCons (fVar 0) (fCons (fCall lenO (pCons (fVar 2) fNil)) fNil)))))
abbrev o_law_mixed_2 : DSt → Flow := whileF c_law_mixed_1 b_law_mixed_2 10000
def p_law_mixed : DSt → Flow := fseq (fSet 2 (fCall listO (pCons (fVar 1) fNil))) (fseq (fSet 3 (fLst fNil)) (fseq (whileF c_law_mixed_1 b_law_mixed_2 10000) (fRet (fVar 3))))
def F_law_mixed : List R → Pw → FRes := runF 4 2 p_law_mixed
def b_law_names_1 : DSt → Flow := fseq (fSet 5 (fLst (fCons (fC (.int 1)) (fCons (fOp (lift2 addO) (fC (.int 1)) (fUser F_law_draw (fCons (fVar 0) (fCons (fC (.int 3)) fNil)))) (fCons (fOp (lift2 addO) (fC (.int 1)) (fUser F_law_draw (fCons (fVar 0) (fCons (fOp (lift2 powO) (fC (.int 10)) (fC (.int 28))) fNil)))) fNil))))) (fseq (fSet 3 (fOp (lift2 addO) (fVar 3) (fOp (lift2 ixO) (fVar 5) (fOp (lift2 fdivO) (fUser F_law_draw (fCons (fVar 0) (fCons (fC (.int 6)) fNil))) (fC (.int 2)))))) (fDrop (fApp 2 (fVar 3))))
abbrev o_law_names_1 : List PyData → DSt → Flow := loopF (bName 4) b_law_names_1
def p_law_names : DSt → Flow := fseq (fSet 2 (fLst fNil)) (fseq (fSet 3 (fUn (lift1 negO) (fC (.int 1)))) (fseq (fFor (fRng1 (pCons (fVar 1) fNil)) (bName 4) b_law_names_1) (fRet (fVar 2))))
def F_law_names : List R → Pw → FRes := runF 6 2 p_law_names
/-! drawn lists -/
end DL

noncomputable section
namespace DL
open PySem L2
def p_is_number : DSt → Flow := fRet (fAndV (fIsi "int" (fVar 0)) (fV (fNot (fB (fIsi "bool" (fVar 0))))))
def F_is_number : List R → Pw → FRes := runF 1 1 p_is_number
def e_are_unlike_names_1 : M R := fAndV (fUser F_is_number (fCons (fVar 1) fNil)) (fOp (lift2 geO) (fVar 1) (fC (.int 0)))
abbrev l_are_unlike_names_1 : M R := fLc (fLstI (fVar 0)) (bName 1) fYes (e_are_unlike_names_1) [1]
def p_are_unlike_names : DSt → Flow := fseq (fIfS (fOr (fNot (fB (fIsi "list" (fVar 0)))) (fNot (fB (fCall allO (pCons (fLc (fLstI (fVar 0)) (bName 1) fYes (e_are_unlike_names_1) [1]) fNil))))) (fRet (fC (.bool false))) fnext) (fRet (fOp (lift2 eqO) (fLenSet (fVar 0)) (fCall lenO (pCons (fVar 0) fNil))))
def F_are_unlike_names : List R → Pw → FRes := runF 2 1 p_are_unlike_names
def p_is_ranking : DSt → Flow := fRet (fAndV (fUser F_are_unlike_names (fCons (fVar 0) fNil)) (fAndV (fOp (lift2 gtO) (fCall lenO (pCons (fVar 0) fNil)) (fC (.int 0))) (fOp (lift2 leO) (fCall lenO (pCons (fVar 0) fNil)) (fC (.int 10)))))
def F_is_ranking : List R → Pw → FRes := runF 1 1 p_is_ranking
def p_must_be_ranking : DSt → Flow := fIfS (fNot (fB (fUser F_is_ranking (fCons (fVar 0) fNil)))) (fRaise "NoRanking") fnext
def F_must_be_ranking : List R → Pw → FRes := runF 1 1 p_must_be_ranking
def p_is_ahead : DSt → Flow := fRet (fOp (lift2 ltO) (fIndex (fVar 0) (fVar 1)) (fIndex (fVar 0) (fVar 2)))
def F_is_ahead : List R → Pw → FRes := runF 3 3 p_is_ahead
def p_ahead : DSt → Flow := fseq (fDrop (fUser F_must_be_ranking (fCons (fVar 0) fNil))) (fseq (fIfS (fOr (fB (fOp (lift2 notInO) (fVar 1) (fVar 0))) (fOr (fB (fOp (lift2 notInO) (fVar 2) (fVar 0))) (fB (fOp (lift2 eqO) (fVar 1) (fVar 2))))) (fRaise "NoNames") fnext) (fRet (fUser F_is_ahead (fCons (fVar 0) (fCons (fVar 1) (fCons (fVar 2) fNil))))))
def F_ahead : List R → Pw → FRes := runF 3 3 p_ahead
def e_places_of_pairs_1 : M R := fTup (fCons (fVar 2) (fCons (fVar 3) fNil))
abbrev l_places_of_pairs_1 : M R := fLc (fRng2 (pCons (fOp (lift2 addO) (fVar 2) (fC (.int 1))) (pCons (fVar 0) fNil))) (bName 3) fYes (e_places_of_pairs_1) [3]
def b_places_of_pairs_2 : DSt → Flow := fSet 1 (fOp (lift2 addO) (fVar 1) (fLc (fRng2 (pCons (fOp (lift2 addO) (fVar 2) (fC (.int 1))) (pCons (fVar 0) fNil))) (bName 3) fYes (e_places_of_pairs_1) [3]))
abbrev o_places_of_pairs_2 : List PyData → DSt → Flow := loopF (bName 2) b_places_of_pairs_2
def p_places_of_pairs : DSt → Flow := fseq (fSet 1 (fLst fNil)) (fseq (fFor (fRng1 (pCons (fVar 0) fNil)) (bName 2) b_places_of_pairs_2) (fRet (fVar 1)))
def F_places_of_pairs : List R → Pw → FRes := runF 4 1 p_places_of_pairs
def e_pairs_of_1 : M R := fTup (fCons (fOp (lift2 ixO) (fVar 0) (fVar 1)) (fCons (fOp (lift2 ixO) (fVar 0) (fVar 2)) fNil))
abbrev l_pairs_of_1 : M R := fLc (fLstI (fUser F_places_of_pairs (fCons (fCall lenO (pCons (fVar 0) fNil)) fNil))) (bTup 2 (bCons (bName 1) (bCons (bName 2) bNil))) fYes (e_pairs_of_1) [1, 2]
def p_pairs_of : DSt → Flow := fRet (fLc (fLstI (fUser F_places_of_pairs (fCons (fCall lenO (pCons (fVar 0) fNil)) fNil))) (bTup 2 (bCons (bName 1) (bCons (bName 2) bNil))) fYes (e_pairs_of_1) [1, 2])
def F_pairs_of : List R → Pw → FRes := runF 3 1 p_pairs_of
def t_many_unlike_1 : M Bool := fNot (fB (fUser F_is_ahead (fCons (fVar 1) (fCons (fOp (lift2 ixO) (fVar 2) (fC (.int 0))) (fCons (fOp (lift2 ixO) (fVar 2) (fC (.int 1))) fNil)))))
def e_many_unlike_2 : M R := fVar 2
abbrev l_many_unlike_2 : M R := fLc (fLstI (fUser F_pairs_of (fCons (fVar 0) fNil))) (bName 2) (t_many_unlike_1) (e_many_unlike_2) [2]
def p_many_unlike : DSt → Flow := fRet (fCall lenO (pCons (fLc (fLstI (fUser F_pairs_of (fCons (fVar 0) fNil))) (bName 2) (t_many_unlike_1) (e_many_unlike_2) [2]) fNil))
def F_many_unlike : List R → Pw → FRes := runF 3 2 p_many_unlike
def b_must_be_alike_named_1 : DSt → Flow := fDrop (fUser F_must_be_ranking (fCons (fVar 1) fNil))
abbrev o_must_be_alike_named_1 : List PyData → DSt → Flow := loopF (bName 1) b_must_be_alike_named_1
def e_must_be_alike_named_2 : M R := fOp (lift2 eqO) (fCall sortedO (pCons (fVar 1) fNil)) (fCall sortedO (pCons (fOp (lift2 ixO) (fVar 0) (fC (.int 0))) fNil))
abbrev l_must_be_alike_named_2 : M R := fLc (fLstI (fVar 0)) (bName 1) fYes (e_must_be_alike_named_2) [1]
def p_must_be_alike_named : DSt → Flow := fseq (fFor (fLstI (fVar 0)) (bName 1) b_must_be_alike_named_1) (fIfS (fNot (fB (fCall allO (pCons (fLc (fLstI (fVar 0)) (bName 1) fYes (e_must_be_alike_named_2) [1]) fNil)))) (fRaise "NoFit") fnext)
def F_must_be_alike_named : List R → Pw → FRes := runF 2 1 p_must_be_alike_named
def p_unlike : DSt → Flow := fseq (fDrop (fUser F_must_be_alike_named (fCons (fLst (fCons (fVar 0) (fCons (fVar 1) fNil))) fNil))) (fRet (fUser F_many_unlike (fCons (fVar 0) (fCons (fVar 1) fNil))))
def F_unlike : List R → Pw → FRes := runF 2 2 p_unlike
def Rank (ns : List Int) : Prop := ns.Nodup ∧ (∀ x ∈ ns, 0 ≤ x) ∧ 0 < ns.length ∧ ns.length ≤ 10
@[simp] theorem is_number_int {n : Int} {w : Pw} : F_is_number [.val (.int n)] w = .ok (.val (.bool true)) w := by
  unfold F_is_number p_is_number
  simp -implicitDefEqProofs [x_runF]
/-! ### pairs of places -/
def places (n : Nat) : List (Nat × Nat) := (List.range n).flatMap fun k => (List.range (n - (k + 1))).map fun j => (k, k + 1 + j)
def plD (p : Nat × Nat) : PyData := .tuple [.int (p.1 : Int), .int (p.2 : Int)]
def pairsI (ns : List Int) : List (Int × Int) := (places ns.length).map fun p => (ns.getD p.1 0, ns.getD p.2 0)
def prD (p : Int × Int) : PyData := .tuple [.int p.1, .int p.2]
def manyI (one other : List Int) : Nat := ((pairsI one).filter fun p => !decide (other.idxOf p.1 < other.idxOf p.2)).length
end DL

noncomputable section
namespace DL
open PySem L2
def p_law_many : DSt → Flow := fRet (fOp (lift2 addO) (fC (.int 1)) (fUser F_law_draw (fCons (fVar 0) (fCons (fOp (lift2 ixO) (fLst (fCons (fC (.int 4)) (fCons (fC (.int 7)) (fCons (fC (.int 10)) fNil)))) (fUser F_law_draw (fCons (fVar 0) (fCons (fC (.int 3)) fNil)))) fNil))))
def F_law_many : List R → Pw → FRes := runF 1 1 p_law_many
def cntP (one other : List Int) (a b : Int) : Bool := decide (one.idxOf a < one.idxOf b ∧ other.idxOf b < other.idxOf a)
def cnt2 (one other : List Int) (a : Int) : Nat := (one.filter (cntP one other a)).length
/-! ### twofold sums -/
def dbl (l : List Int) (f : Int → Int → Nat) : Nat := (l.map fun x => (l.map (f x)).sum).sum
def ah (r : List Int) (x y : Int) : Bool := decide (r.idxOf x < r.idxOf y)
def uq (a b : List Int) (x y : Int) : Nat := if ah a x y = ah b x y then 0 else 1
end DL

noncomputable section
namespace DL
open PySem L2
def p_law_mix : DSt → Flow := fseq (fSet 2 (fOp (lift2 modO) (fOp (lift2 mulO) (fOp (lift2 addO) (fOp (lift2 addO) (fOp (lift2 mulO) (fVar 0) (fVar 0)) (fOp (lift2 mulO) (fVar 1) (fVar 0))) (fOp (lift2 mulO) (fOp (lift2 mulO) (fC (.int 7)) (fVar 1)) (fVar 1))) (fC (.int 1103515245))) (fC (.int 2147483629)))) (fRet (fOp (lift2 modO) (fOp (lift2 mulO) (fVar 2) (fVar 2)) (fC (.int 2147483587))))
def F_law_mix : List R → Pw → FRes := runF 3 2 p_law_mix
def p_law_left : DSt → Flow := fseq (fIfS (fB (fOp (lift2 ltO) (fVar 0) (fOp (lift2 powO) (fC (.int 10)) (fC (.int 18))))) (fRet (fLst (fCons (fOp (lift2 modO) (fVar 0) (fC (.int 2147483629))) (fCons (fC (.int 0)) (fCons (fC (.int 0)) fNil))))) fnext) (fRet (fLst (fCons (fOp (lift2 modO) (fOp (lift2 subO) (fVar 0) (fOp (lift2 powO) (fC (.int 10)) (fC (.int 18)))) (fOp (lift2 powO) (fOp (lift2 powO) (fOp (lift2 powO) (fC (.int 10)) (fC (.int 60))) (fC (.int 20))) (fC (.int 5)))) (fCons (fC (.int 1)) (fCons (fC (.int 0)) fNil)))))
def F_law_left : List R → Pw → FRes := runF 1 1 p_law_left
def p_law_draw_v3 : DSt → Flow := fseq (fSetC 0 (fOp (lift2 addO) (fIxC 0 (fC (.int 2))) (fC (.int 1))) (fC (.int 2))) (fseq (fIfS (fB (fOp (lift2 eqO) (fIxC 0 (fC (.int 1))) (fC (.int 0)))) (fseq (fSet 2 (fUser F_law_mix (fCons (fIxC 0 (fC (.int 0))) (fCons (fIxC 0 (fC (.int 2))) fNil)))) (fseq (fIfS (fB (fOp (lift2 gtO) (fVar 1) (fOp (lift2 powO) (fC (.int 10)) (fC (.int 9))))) (fRet (fOp (lift2 modO) (fOp (lift2 mulO) (fVar 2) (fOp (lift2 addO) (fOp (lift2 powO) (fUser F_law_mix (fCons (fIxC 0 (fC (.int 0))) (fCons (fOp (lift2 addO) (fIxC 0 (fC (.int 2))) (fC (.int 500))) fNil))) (fC (.int 3))) (fC (.int 1)))) (fVar 1))) fnext) (fRet (fOp (lift2 modO) (fOp (lift2 modO) (fOp (lift2 mulO) (fVar 2) (fOp (lift2 addO) (fVar 2) (fC (.int 2)))) (fC (.int 2147483579))) (fVar 1))))) fnext) (fseq (fSet 3 (fOp (lift2 modO) (fIxC 0 (fC (.int 0))) (fVar 1))) (fseq (fSetC 0 (fOp (lift2 fdivO) (fIxC 0 (fC (.int 0))) (fVar 1)) (fC (.int 0))) (fRet (fVar 3)))))
def F_law_draw_v3 : List R → Pw → FRes := runF 4 2 p_law_draw_v3
/-! family C: the list of numbers drawn from -/
def LP (pa : Addr) (w : Pw) (m : Int) : Prop := ∃ n g t : Int, w = some (pa, pa, [n, g, t], 0) ∧ 0 ≤ n ∧ (g = 0 → n < 2147483629) ∧ 0 ≤ t ∧ t ≤ m
theorem LP.mono {pa : Addr} {w : Pw} {m m' : Int} (h : LP pa w m) (h2 : m ≤ m') : LP pa w m' := by
  obtain ⟨n, g, t, e, h1, h3, h4, h5⟩ := h
  exact ⟨n, g, t, e, h1, h3, h4, by omega⟩
theorem mul_nn {a b A B : Int} (h0 : 0 ≤ a) (h1 : a < A) (h2 : 0 ≤ b) (h3 : b < B) : 0 ≤ a * b ∧ a * b < A * B := by
  have x1 := Int.mul_nonneg h0 h2
  have x2 : a * b ≤ a * B := Int.mul_le_mul_of_nonneg_left (by omega) h0
  have x3 : a * B < A * B := Int.mul_lt_mul_of_pos_right h1 (by omega)
  exact ⟨x1, by omega⟩
theorem mul_g {a b A B : Int} (h0 : 0 ≤ a) (h1 : a < A) (h2 : 0 ≤ b) (h3 : b < B) (hA : A ≤ 2 ^ 200) (hB : B ≤ 2 ^ 200) : ∃ c, mulO (.int a) (.int b) = some (.val (.int c)) ∧ 0 ≤ c ∧ c < A * B := by
  obtain ⟨x1, x2⟩ := mul_nn h0 h1 h2 h3
  exact ⟨a * b, mul_ok (by omega) (by omega) (by omega) (by omega), x1, x2⟩
theorem mix_ok {n k : Int} {w : Pw} (n0 : 0 ≤ n) (n1 : n < 2147483648) (k0 : 0 ≤ k) (k1 : k < 1099511627776) : ∃ r, F_law_mix [.val (.int (n)), .val (.int (k))] w = .ok (.val (.int (r))) w ∧ 0 ≤ r ∧ r < 2147483587 := by
  obtain ⟨a, ea, a0, a1⟩ := mul_g n0 n1 n0 n1 (by omega) (by omega)
  obtain ⟨b, eb, b0, b1⟩ := mul_g k0 k1 n0 n1 (by omega) (by omega)
  obtain ⟨c, ec, c0, c1⟩ := mul_g (a := 7) (A := 8) (by omega) (by omega) k0 k1 (by omega) (by omega)
  obtain ⟨d, ed, d0, d1⟩ := mul_g c0 c1 k0 k1 (by omega) (by omega)
  obtain ⟨x, ex, x0, x1⟩ := mul_g (a := a + b + d) (b := 1103515245) (A := 2 ^ 100) (B := 2 ^ 31) (by omega) (by omega) (by omega) (by omega) (by omega) (by omega)
  have y0 := Int.emod_nonneg x (by omega : (2147483629 : Int) ≠ 0)
  have y1 := Int.emod_lt_of_pos x (by omega : (0 : Int) < 2147483629)
  obtain ⟨y, hy⟩ : ∃ y, y = x % 2147483629 := ⟨_, rfl⟩
  rw [← hy] at y0 y1
  obtain ⟨z, ez, z0, z1⟩ := mul_g y0 y1 y0 y1 (by omega) (by omega)
  have r0 := Int.emod_nonneg z (by omega : (2147483587 : Int) ≠ 0)
  have r1 := Int.emod_lt_of_pos z (by omega : (0 : Int) < 2147483587)
  refine ⟨z % 2147483587, ?_, r0, r1⟩
  unfold F_law_mix p_law_mix
  simp only [x_runF]
  simp -implicitDefEqProofs [ea, eb, ec, ed, ex, ← hy, ez, mod_ok]
theorem big_pow : ∃ A : Int, 0 < A ∧ ∃ T U, powO (.int 10) (.int 60) = some (.val (.int T)) ∧ powO (.int T) (.int 20) = some (.val (.int U)) ∧ powO (.int U) (.int 5) = some (.val (.int A)) := by
  obtain ⟨t, e, t0, t1⟩ : ∃ t : Nat, powO (.int 10) (.int 60) = some (.val (.int (t : Int))) ∧ 0 < t ∧ t < 2 ^ 200 := by
    obtain ⟨n, hn⟩ : ∃ n : Nat, n = 60 := ⟨_, rfl⟩
    refine ⟨10 ^ n, ?_, Nat.pow_pos (by decide), by rw [hn]; decide +kernel⟩
    have e : powO (.int 10) (.int 60) = some (.val (.int (10 ^ n))) := by
      rw [hn]
      exact pow_ok (by omega) (by omega) (by omega) (by omega)
    rw [e]
    congr 3
  have u0 : 0 < t ^ 20 := Nat.pow_pos t0
  have u1 : t ^ 20 < 2 ^ 4000 := by
    have := Nat.pow_lt_pow_left t1 (by decide : (20 : Nat) ≠ 0)
    rwa [← Nat.pow_mul] at this
  have lt : lgP (t : Int) := by
    unfold lgP
    rw [Int.natAbs_natCast]
    have := (Nat.log2_lt (n := t) (k := 200) (by omega)).mpr t1
    omega
  have e2 : powO (.int (t : Int)) (.int 20) = some (.val (.int ((t ^ 20 : Nat) : Int))) := by
    rw [x_pow, if_pos ⟨by decide, by unfold leP; decide, lt⟩]
    congr 3
  obtain ⟨u, hu⟩ : ∃ u, u = t ^ 20 := ⟨_, rfl⟩
  rw [← hu] at u0 u1 e2
  have lu : lgP (u : Int) := by
    unfold lgP
    rw [Int.natAbs_natCast]
    exact (Nat.log2_lt (n := u) (k := 4000) (by omega)).mpr u1
  have e3 : powO (.int (u : Int)) (.int 5) = some (.val (.int ((u : Int) ^ (5 : Int).toNat))) := by
    rw [x_pow, if_pos ⟨by decide, by unfold leP; decide, lu⟩]
  exact ⟨_, Int.pow_pos (by omega), _, _, e, e2, e3⟩
theorem left_ok {c : Int} {w : Pw} : ∃ n g : Int, F_law_left [.val (.int (c))] w = .ok (.new [.int n, .int g, .int 0]) w ∧ 0 ≤ n ∧ (g = 0 → n < 2147483629) := by
  obtain ⟨A, A0, T, U, e1, e2, e3⟩ := big_pow
  by_cases h : c < 1000000000000000000
  · refine ⟨c % 2147483629, 0, ?_, Int.emod_nonneg _ (by omega), fun _ => Int.emod_lt_of_pos _ (by omega)⟩
    unfold F_law_left p_law_left
    simp only [x_runF]
    simp -implicitDefEqProofs [h]
  · refine ⟨(c - 1000000000000000000) % A, 1, ?_, Int.emod_nonneg _ (by omega), fun z => by cases z⟩
    unfold F_law_left p_law_left
    simp only [x_runF]
    simp -implicitDefEqProofs [h, z18, e1, e2, e3, mod_ok A0, -pow_ok]
theorem draw2_ok {pa : Addr} {w : Pw} {m b : Int} (h : LP pa w m) (b0 : 0 < b) (b1 : b < 2 ^ 100) (hm : m < 2 ^ 38) : ∃ r w', F_law_draw_v3 [.raw (.ref pa), .val (.int (b))] w = .ok (.val (.int (r))) w' ∧ 0 ≤ r ∧ r < b ∧ LP pa w' (m + 1) := by
  obtain ⟨n, g, t, rfl, n0, n1, t0, t1⟩ := h
  have r0 : ∀ x : Int, 0 ≤ x % b := fun x => Int.emod_nonneg x (by omega)
  have r1 : ∀ x : Int, x % b < b := fun x => Int.emod_lt_of_pos x b0
  have em : ∀ x : Int, modO (.int x) (.int b) = some (.val (.int (x % b))) := fun x => mod_ok b0
  have ed : ∀ x : Int, fdivO (.int x) (.int b) = some (.val (.int (x / b))) := fun x => fdiv_ok b0 (by omega)
  have i2 : ixN 3 2 = some 2 := rfl
  have i0 : ixN 3 0 = some 0 := rfl
  have z9 : powO (.int 10) (.int 9) = some (.val (.int 1000000000)) := by simp
  by_cases hg : g = 0
  · subst hg
    have n1 := n1 rfl
    obtain ⟨x, e1, x0, x1⟩ := mix_ok (n := n) (k := t + 1) (w := some (pa, pa, [n, 0, t + 1], 0)) n0 (by omega) (by omega) (by omega)
    have lp : LP pa (some (pa, pa, [n, 0, t + 1], 0)) (m + 1) := ⟨n, 0, t + 1, rfl, n0, fun _ => n1, by omega, by omega⟩
    by_cases hb : 1000000000 < b
    · obtain ⟨y, e2, y0, y1⟩ := mix_ok (n := n) (k := t + 1 + 500) (w := some (pa, pa, [n, 0, t + 1], 0)) n0 (by omega) (by omega) (by omega)
      have e3 : powO (.int y) (.int 3) = some (.val (.int (y ^ 3))) := pow_ok (by omega) (by omega) (by omega) (by omega)
      obtain ⟨q0, q1⟩ := mul_nn y0 y1 y0 y1
      obtain ⟨q2, q3⟩ := mul_nn q0 q1 y0 y1
      have ey : y ^ 3 = y * y * y := by rw [Int.pow_succ, Int.pow_succ, Int.pow_succ, Int.pow_zero, Int.one_mul]
      rw [← ey] at q2 q3
      obtain ⟨p, hp⟩ : ∃ p, p = y ^ 3 := ⟨_, rfl⟩
      rw [← hp] at q2 q3 e3
      obtain ⟨z, e4, z0, z1⟩ := mul_g (a := x) (b := p + 1) (A := 2 ^ 31) (B := 2 ^ 94) x0 (by omega) (by omega) (by omega) (by omega) (by omega)
      refine ⟨z % b, _, ?_, r0 _, r1 _, lp⟩
      unfold F_law_draw_v3 p_law_draw_v3
      simp only [x_runF]
      simp -implicitDefEqProofs [i2, i0, z9, e1, hb, e2, e3, e4, em, -pow_ok]
    · obtain ⟨z, e4, z0, z1⟩ := mul_g (a := x) (b := x + 2) (A := 2 ^ 31) (B := 2 ^ 32) x0 (by omega) (by omega) (by omega) (by omega) (by omega)
      refine ⟨z % 2147483579 % b, _, ?_, r0 _, r1 _, lp⟩
      unfold F_law_draw_v3 p_law_draw_v3
      simp only [x_runF]
      simp -implicitDefEqProofs [i2, i0, z9, e1, hb, e4, em]
  · have d0 : 0 ≤ n / b := Int.ediv_nonneg n0 (by omega)
    refine ⟨n % b, some (pa, pa, [n / b, g, t + 1], 0), ?_, r0 _, r1 _, ⟨n / b, g, t + 1, rfl, d0, fun z => (hg z).elim, by omega, by omega⟩⟩
    unfold F_law_draw_v3 p_law_draw_v3
    simp only [x_runF]
    simp -implicitDefEqProofs [i2, i0, hg, em, ed]

end DL

noncomputable section
namespace DL
open PySem L2

/-! lists of lists in order -/
def llD (x : List Int) : PyData := .list (x.map .int)
def leLL (a b : List Int) : Bool := PySem.W.sortLe (PyProof.Rows.listOrd PyProof.Rows.itemOrd) false PySem.W.keyToks (llD a) (llD b)
def sortLL (ls : List (List Int)) : List (List Int) := ls.mergeSort leLL
end DL

noncomputable section
namespace DL
open PySem L2
def b_law_names_v6_1 : DSt → Flow := fseq (fSet 4 (fOp (lift2 addO) (fOp (lift2 addO) (fVar 4) (fC (.int 1))) (fUser F_law_draw_v3 (fCons (fVar 0) (fCons (fVar 2) fNil))))) (fDrop (fApp 3 (fVar 4)))
abbrev o_law_names_v6_1 : List PyData → DSt → Flow := loopF (bName 5) b_law_names_v6_1
def p_law_names_v6 : DSt → Flow := fseq (fSet 2 (fOp (lift2 ixO) (fLst (fCons (fC (.int 1)) (fCons (fC (.int 1)) (fCons (fC (.int 3)) (fCons (fOp (lift2 powO) (fC (.int 10)) (fC (.int 9))) fNil))))) (fUser F_law_draw_v3 (fCons (fVar 0) (fCons (fC (.int 4)) fNil))))) (fseq (fSet 3 (fLst fNil)) (fseq (fSet 4 (fUn (lift1 negO) (fC (.int 1)))) (fseq (fFor (fRng1 (pCons (fVar 1) fNil)) (bName 5) b_law_names_v6_1) (fRet (fVar 3)))))
def F_law_names_v6 : List R → Pw → FRes := runF 6 2 p_law_names_v6
def b_law_shuffled_v3_1 : DSt → Flow := fDrop (fIns 2 (fCons (fUser F_law_draw_v3 (fCons (fVar 0) (fCons (fOp (lift2 addO) (fCall lenO (pCons (fVar 2) fNil)) (fC (.int 1))) fNil))) (fCons (fVar 3) fNil)))
abbrev o_law_shuffled_v3_1 : List PyData → DSt → Flow := loopF (bName 3) b_law_shuffled_v3_1
def p_law_shuffled_v3 : DSt → Flow := fseq (fSet 2 (fLst fNil)) (fseq (fFor (fLstI (fVar 1)) (bName 3) b_law_shuffled_v3_1) (fRet (fVar 2)))
def F_law_shuffled_v3 : List R → Pw → FRes := runF 4 2 p_law_shuffled_v3
def b_law_tree_v2_1 : DSt → Flow := fseq (fSet 6 (fOp (lift2 ixO) (fVar 2) (fOp (lift2 ixO) (fLst (fCons (fUser F_law_draw_v3 (fCons (fVar 0) (fCons (fVar 5) fNil))) (fCons (fOp (lift2 subO) (fVar 5) (fC (.int 1))) (fCons (fC (.int 0)) fNil)))) (fVar 3)))) (fDrop (fApp 4 (fTup (fCons (fCall minO (pCons (fOp (lift2 ixO) (fVar 2) (fVar 5)) (pCons (fVar 6) fNil))) (fCons (fCall maxO (pCons (fOp (lift2 ixO) (fVar 2) (fVar 5)) (pCons (fVar 6) fNil))) fNil)))))
abbrev o_law_tree_v2_1 : List PyData → DSt → Flow := loopF (bName 5) b_law_tree_v2_1
def p_law_tree_v2 : DSt → Flow := fseq (fSet 2 (fUser F_law_shuffled_v3 (fCons (fVar 0) (fCons (fVar 1) fNil)))) (fseq (fSet 3 (fUser F_law_draw_v3 (fCons (fVar 0) (fCons (fC (.int 3)) fNil)))) (fseq (fSet 4 (fLst fNil)) (fseq (fFor (fRng2 (pCons (fC (.int 1)) (pCons (fCall lenO (pCons (fVar 2) fNil)) fNil))) (bName 5) b_law_tree_v2_1) (fRet (fCall sortedO (pCons (fVar 4) fNil))))))
def F_law_tree_v2 : List R → Pw → FRes := runF 7 2 p_law_tree_v2
theorem names6_ok {pa : Addr} {w : Pw} {m : Int} {n : Nat} (h : LP pa w m) (hm : m < 2 ^ 37) (hn : n ≤ 1000) : ∃ (ns : List Int) (w' : Pw), F_law_names_v6 [.raw (.ref pa), .val (.int ((n : Nat) : Int))] w = .ok (.new (ns.map .int)) w' ∧ ns.length = n ∧ ns.Pairwise (· < ·) ∧ (∀ x ∈ ns, 0 ≤ x ∧ x ≤ 1000000001 * n) ∧ LP pa w' (m + 5000) := by
  obtain ⟨r, w1, e1, r0, r1, q1⟩ := draw2_ok (b := 4) h (by omega) (by omega) (by omega)
  obtain ⟨far, ef, f0, f1⟩ : ∃ far : Int, atI [PyData.int 1, .int 1, .int 3, .int 1000000000] r = some (.int far) ∧ 0 < far ∧ far ≤ 1000000000 := by
    have : r = 0 ∨ r = 1 ∨ r = 2 ∨ r = 3 := by omega
    rcases this with q | q | q | q <;> rw [q]
    · exact ⟨1, rfl, by omega, by omega⟩
    · exact ⟨1, rfl, by omega, by omega⟩
    · exact ⟨3, rfl, by omega, by omega⟩
    · exact ⟨1000000000, rfl, by omega, by omega⟩
  obtain ⟨s', e, ns, last, w', v5, h1, h2, h3, h4, h6, rfl⟩ := loopN (b := bName 5) (p := b_law_names_v6_1) (f := fun (k : Nat) => PyData.int (0 + (k : Int))) (l := List.range n) (s := ⟨[.raw (.ref pa), .val (.int ((n : Nat) : Int)), .val (.int (far)), .own [], .val (.int (-1)), .no], w1⟩)
    (fun i s => ∃ (ns : List Int) (last : Int) (w' : Pw) (v5 : Sl), ns.length = i ∧ ns.Pairwise (· < ·) ∧ (∀ x ∈ ns, 0 ≤ x ∧ x ≤ last) ∧ (-1 ≤ last ∧ last ≤ 1000000001 * (i : Int)) ∧ LP pa w' (m + 1 + i) ∧ s = ⟨[.raw (.ref pa), .val (.int ((n : Nat) : Int)), .val (.int (far)), .own (ns.map .int), .val (.int (last)), v5], w'⟩)
    ⟨[], -1, w1, .no, rfl, .nil, by simp, by omega, by simpa using q1, rfl⟩ (by
      rintro i k s hi hk ⟨ns, last, w2, v5, h1, h2, h3, h4, h6, rfl⟩
      obtain ⟨rfl, hkn⟩ := range_at hi
      obtain ⟨d, w3, e3, d0, d1, q3⟩ := draw2_ok (b := far) h6 f0 (by omega) (by omega)
      have lt : ltS ns.length := size_lt (by omega)
      have em : ns.map PyData.int ++ [.int (last + 1 + d)] = (ns ++ [last + 1 + d]).map .int := by simp
      unfold b_law_names_v6_1
      simp -implicitDefEqProofs [e3, lt, em, -List.map_append, -map_int_inj]
      refine ⟨ns ++ [last + 1 + d], by rw [List.length_append, h1]; rfl, ?_, last + 1 + d, ?_, ⟨by omega, by omega⟩, q3.mono (by omega), rfl, rfl⟩
      · rw [List.pairwise_append]
        refine ⟨h2, List.pairwise_singleton _ _, fun a ha b hb => ?_⟩
        rw [List.mem_singleton] at hb
        have := h3 a ha
        omega
      · intro y hy
        rcases List.mem_append.mp hy with hy | hy
        · have := h3 y hy; omega
        · rw [List.mem_singleton] at hy; omega)
  have hB : inB (n : Int) := inB_of (by omega) (by omega)
  rw [List.length_range] at h1 h4 h6
  refine ⟨ns, w', ?_, h1, h2, fun x hx => ⟨(h3 x hx).1, by have := (h3 x hx).2; omega⟩, h6.mono (by omega)⟩
  have e' : loopF (bName 5) b_law_names_v6_1 (rangeD 0 n) ⟨[.raw (.ref pa), .val (.int ((n : Nat) : Int)), .val (.int (far)), .own [], .val (.int (-1)), .no], w1⟩ = _ := e
  unfold F_law_names_v6 p_law_names_v6
  simp only [x_runF]
  simp -implicitDefEqProofs [e1, ef, e', hB]
theorem shuffled3_ok {pa : Addr} {w : Pw} {m : Int} {N : List Int} (h : LP pa w m) (hm : m < 2 ^ 37) (h10 : N.length ≤ 1000) : ∃ (L : List Int) (w' : Pw), F_law_shuffled_v3 [.raw (.ref pa), .val (.list ((N).map .int))] w = .ok (.new (L.map .int)) w' ∧ L.Perm N ∧ LP pa w' (m + 1000) := by
  obtain ⟨s', e, L, v3, w', hp, q, rfl⟩ := loopN (b := bName 3) (p := b_law_shuffled_v3_1) (f := .int) (l := N) (s := ⟨[.raw (.ref pa), .val (.list ((N).map .int)), .own [], .no], w⟩)
    (fun i s => ∃ (L : List Int) (v3 : Sl) (w' : Pw), L.Perm (N.take i) ∧ LP pa w' (m + i) ∧ s = ⟨[.raw (.ref pa), .val (.list ((N).map .int)), .own (L.map .int), v3], w'⟩) ⟨[], .no, w, by simp, by simpa using h, rfl⟩ (by
      rintro i a s hi hm2 ⟨L, v3, w1, hp, q, rfl⟩
      have hi2 := (List.getElem?_eq_some_iff.mp hi).1
      have ll := hp.length_eq
      rw [List.length_take] at ll
      obtain ⟨k, w2, e2, k0, k1, q2⟩ := draw2_ok (b := (L.length : Int) + 1) q (by omega) (by omega) (by omega)
      obtain ⟨k, rfl⟩ := Int.eq_ofNat_of_zero_le k0
      have iw : inW (k : Int) := ⟨by omega, by omega⟩
      have lt : ltS L.length := size_lt (by omega)
      have em : (L.map PyData.int).take k ++ (PyData.int a :: (L.map PyData.int).drop k) = (L.take k ++ a :: L.drop k).map .int := by simp
      unfold b_law_shuffled_v3_1
      simp -implicitDefEqProofs [e2, iw, lt, em, -List.map_append, -List.map_cons, -List.map_take, -List.map_drop, -map_int_inj]
      refine ⟨_, ?_, q2.mono (by omega), rfl⟩
      rw [take_succ hi]
      have h1 : (L.take k ++ a :: L.drop k).Perm (a :: L) := by
        have := List.perm_middle (a := a) (l₁ := L.take k) (l₂ := L.drop k)
        rwa [List.take_append_drop] at this
      exact h1.trans ((List.Perm.cons a hp).trans (List.perm_append_singleton a (N.take i)).symm))
  refine ⟨L, w', ?_, by rwa [List.take_length] at hp, q.mono (by omega)⟩
  unfold F_law_shuffled_v3 p_law_shuffled_v3
  simp only [x_runF]
  simp -implicitDefEqProofs [e]
/-! ### ties in order -/
def tieP (a b : Int) : Int × Int := (min a b, max a b)
def lePr (p q : Int × Int) : Bool := PySem.W.sortLe (PyProof.Rows.listOrd PyProof.Rows.itemOrd) false PySem.W.keyToks (prT p) (prT q)
def sortPr (ps : List (Int × Int)) : List (Int × Int) := ps.mergeSort lePr
theorem sortDD_pr (ps : List (Int × Int)) : sortDD (ps.map prT) = (sortPr ps).map prT := (PySem.W.sort_maps prT fun _ _ _ _ => rfl).symm
theorem sortPr_perm (ps : List (Int × Int)) : (sortPr ps).Perm ps := List.mergeSort_perm _ _
theorem canSort_pr (ps : List (Int × Int)) : canSort (ps.map prT) := by
  refine ⟨fun d hd d' hd' => ?_, .inl fun d hd => ?_, fun d hd => ?_⟩
  · obtain ⟨x, _, rfl⟩ := List.mem_map.mp hd
    obtain ⟨y, _, rfl⟩ := List.mem_map.mp hd'
    rfl
  · obtain ⟨x, _, rfl⟩ := List.mem_map.mp hd
    exact ⟨_, _, rfl⟩
  · obtain ⟨x, _, rfl⟩ := List.mem_map.mp hd
    simp [prT]
theorem intsD_pr {ps : List (Int × Int)} : intsD (ps.map prT) = if ps = [] then some [] else none := by
  cases ps with
  | nil => rfl
  | cons p ps => rfl
theorem sortedO_pr (ps : List (Int × Int)) : sortedO [.list (ps.map prT)] = some (.new ((sortPr ps).map prT)) := by
  rw [x_sortedO, intsD_pr]
  by_cases h : ps = []
  · subst h
    have e1 : sortPr [] = [] := by simp [sortPr]
    have e2 : sortI [] = [] := by simp [sortI]
    rw [if_pos rfl, e1]
    simp only [e2, List.map_nil]
  · rw [if_neg h]
    simp only [if_pos (canSort_pr ps), sortDD_pr]
def GenT (N : List Int) (T : List (Int × Int)) : Prop := ∃ (L : List Int) (f : Nat → Nat), L.Perm N ∧ (∀ k, 0 < k → k < L.length → f k < k) ∧ T = sortPr ((List.range' 1 (L.length - 1)).map fun k => tieP (L.getD k 0) (L.getD (f k) 0))
theorem tree_ok {pa : Addr} {w : Pw} {m : Int} {N : List Int} (h : LP pa w m) (hm : m < 2 ^ 36) (h0 : 0 < N.length) (h10 : N.length ≤ 1000) : ∃ (T : List (Int × Int)) (w' : Pw), F_law_tree_v2 [.raw (.ref pa), .val (.list ((N).map .int))] w = .ok (.new (T.map prT)) w' ∧ GenT N T ∧ LP pa w' (m + 5000) := by
  obtain ⟨L, w1, e1, hp, q1⟩ := shuffled3_ok h (by omega) h10
  obtain ⟨way, w2, e2, y0, y1, q2⟩ := draw2_ok (b := 3) q1 (by omega) (by omega) (by omega)
  have hl := hp.length_eq
  obtain ⟨s', e, T, f, v4, v5, v6, w', ⟨hf, hT⟩, q, rfl⟩ := loopN (b := bName 5) (p := b_law_tree_v2_1) (f := fun (k : Nat) => PyData.int (k : Int)) (l := List.range' 1 (L.length - 1)) (s := ⟨[.raw (.ref pa), .val (.list ((N).map .int)), .own (L.map .int), .val (.int (way)), .own [], .no, .no], w2⟩)
    (fun i s => ∃ (T : List (Int × Int)) (f : Nat → Nat) (v4 v5 v6 : Sl) (w' : Pw), ((∀ k, 0 < k → k < 1 + i → f k < k) ∧ T = (List.range' 1 i).map fun k => tieP (L.getD k 0) (L.getD (f k) 0)) ∧ LP pa w' (m + 1001 + i) ∧ s = ⟨[.raw (.ref pa), .val (.list ((N).map .int)), .own (L.map .int), .val (.int (way)), .own (T.map prT), v5, v6], w'⟩) ⟨[], fun _ => 0, .no, .no, .no, w2, ⟨by omega, rfl⟩, q2.mono (by simp; omega), rfl⟩ (by
      rintro i k s hi hm2 ⟨T, f, v4, v5, v6, w3, ⟨hf, hT⟩, q, rfl⟩
      have hk : k = 1 + i ∧ i < L.length - 1 := by
        have h1 := (List.getElem?_eq_some_iff.mp hi).1
        rw [List.length_range'] at h1
        rw [List.getElem?_range' h1] at hi
        cases hi
        exact ⟨by omega, h1⟩
      obtain ⟨rfl, hil⟩ := hk
      obtain ⟨d, w4, e4, d0, d1, q4⟩ := draw2_ok (b := ((1 + i : Nat) : Int)) q (by omega) (by omega) (by omega)
      obtain ⟨d, rfl⟩ := Int.eq_ofNat_of_zero_le d0
      obtain ⟨j, ej, jl⟩ : ∃ j : Nat, atI [PyData.int (d : Int), .int (((1 + i : Nat) : Int) - 1), .int 0] way = some (.int (j : Int)) ∧ j < 1 + i := by
        have : way = 0 ∨ way = 1 ∨ way = 2 := by omega
        rcases this with z | z | z <;> rw [z]
        · exact ⟨d, rfl, by omega⟩
        · have : ((1 + i : Nat) : Int) - 1 = (i : Int) := by omega
          rw [this]
          exact ⟨i, rfl, by omega⟩
        · exact ⟨0, rfl, by omega⟩
      have ak : atI (L.map PyData.int) ((1 + i : Nat) : Int) = some (.int (L.getD (1 + i) 0)) := by rw [atI_nat]; simp [List.getElem?_eq_getElem (show 1 + i < L.length by omega)]
      have aj : atI (L.map PyData.int) (j : Int) = some (.int (L.getD j 0)) := by rw [atI_nat]; simp [List.getElem?_eq_getElem (show j < L.length by omega)]
      obtain ⟨K, hK⟩ : ∃ K : Int, K = ((1 + i : Nat) : Int) := ⟨_, rfl⟩
      rw [← hK] at e4 ej ak
      have lt : ltS T.length := size_lt (by rw [hT]; simp; omega)
      unfold b_law_tree_v2_1
      rw [← hK]
      simp -implicitDefEqProofs [e4, ej, ak, aj, lt, -List.getD_eq_getElem?_getD]
      have et : PyData.tuple [PyData.int (if L.getD j 0 < L.getD (1 + i) 0 then L.getD j 0 else L.getD (1 + i) 0), PyData.int (if L.getD (1 + i) 0 < L.getD j 0 then L.getD j 0 else L.getD (1 + i) 0)] = prT (tieP (L.getD (1 + i) 0) (L.getD j 0)) := by
        have e1 : (if L.getD j 0 < L.getD (1 + i) 0 then L.getD j 0 else L.getD (1 + i) 0) = min (L.getD (1 + i) 0) (L.getD j 0) := by split <;> omega
        have e2 : (if L.getD (1 + i) 0 < L.getD j 0 then L.getD j 0 else L.getD (1 + i) 0) = max (L.getD (1 + i) 0) (L.getD j 0) := by split <;> omega
        rw [e1, e2]
        rfl
      refine ⟨T ++ [tieP (L.getD (1 + i) 0) (L.getD j 0)], ⟨fun k => if k = 1 + i then j else f k, fun k k0 k1 => ?_, ?_⟩, q4.mono (by omega), .no, by rw [et]; simp⟩
      · by_cases z : k = 1 + i
        · show (if k = 1 + i then j else f k) < k
          rw [if_pos z]; omega
        · show (if k = 1 + i then j else f k) < k
          rw [if_neg z]; exact hf k k0 (by omega)
      · rw [List.range'_concat, List.map_append, hT]
        congr 1
        · refine List.map_congr_left fun k hk => ?_
          rw [List.mem_range'_1] at hk
          have z : (if k = 1 + i then j else f k) = f k := if_neg (by omega)
          show _ = tieP (L.getD k 0) (L.getD (if k = 1 + i then j else f k) 0)
          rw [z]
        · simp)
  have hB : inB (1 : Int) := inB_of (by omega) (by omega)
  have hB2 : inB (L.length : Int) := inB_of (by omega) (by omega)
  rw [List.length_range'] at hf hT q
  refine ⟨sortPr T, w', ?_, ⟨L, f, hp, fun k k0 k1 => hf k k0 (by omega), by rw [hT]⟩, q.mono (by omega)⟩
  have so := sortedO_pr T
  have et : ((L.length : Int) - 1).toNat = L.length - 1 := by omega
  have rg : rangeD 1 (L.length - 1) = (List.range' 1 (L.length - 1)).map fun k : Nat => PyData.int (k : Int) := by
    unfold rangeD
    rw [List.range'_eq_map_range, List.map_map]
    refine List.map_congr_left fun k _ => ?_
    simp
  rw [← rg] at e
  unfold F_law_tree_v2 p_law_tree_v2
  simp only [x_runF]
  simp -implicitDefEqProofs [e1, e2, e, hB, hB2, et, so, -x_sortedO]

end DL

noncomputable section
namespace DL
open PySem L2
def t_reached_1 : M Bool := fB (fOp (lift2 notInO) (fVar 7) (fVar 3))
def e_reached_2 : M R := fVar 7
abbrev l_reached_2 : M R := fLc (fTupI (fTup (fCons (fVar 5) (fCons (fVar 6) fNil)))) (bName 7) (t_reached_1) (e_reached_2) [7]
def b_reached_3 : DSt → Flow := fIfS (fAnd (fB (fOp (lift2 inO) (fVar 5) (fVar 1))) (fAnd (fB (fOp (lift2 inO) (fVar 6) (fVar 1))) (fB (fOp (lift2 neO) (fOp (lift2 inO) (fVar 5) (fVar 3)) (fOp (lift2 inO) (fVar 6) (fVar 3)))))) (fSet 3 (fOp (lift2 addO) (fVar 3) (fLc (fTupI (fTup (fCons (fVar 5) (fCons (fVar 6) fNil)))) (bName 7) (t_reached_1) (e_reached_2) [7]))) fnext
abbrev o_reached_3 : List PyData → DSt → Flow := loopF (bTup 2 (bCons (bName 5) (bCons (bName 6) bNil))) b_reached_3
def c_reached_4 : M Bool := fB (fOp (lift2 ltO) (fVar 4) (fCall lenO (pCons (fVar 3) fNil)))
def b_reached_5 : DSt → Flow := fseq (fSet 4 (fCall lenO (pCons (fVar 3) fNil))) (fFor (fLstI (fVar 0)) (bTup 2 (bCons (bName 5) (bCons (bName 6) bNil))) b_reached_3)
abbrev o_reached_5 : DSt → Flow := whileF c_reached_4 b_reached_5 10000
def p_reached : DSt → Flow := fseq (fSet 3 (fLst (fCons (fVar 2) fNil))) (fseq (fSet 4 (fC (.int 0))) (fseq (whileF c_reached_4 b_reached_5 10000) (fRet (fVar 3))))
def F_reached : List R → Pw → FRes := runF 8 3 p_reached
def p_hang_together : DSt → Flow := fRet (fOp (lift2 eqO) (fCall lenO (pCons (fUser F_reached (fCons (fVar 0) (fCons (fVar 1) (fCons (fOp (lift2 ixO) (fVar 1) (fC (.int 0))) fNil)))) fNil)) (fCall lenO (pCons (fVar 1) fNil)))
def F_hang_together : List R → Pw → FRes := runF 2 2 p_hang_together
def t_law_together_1 : M Bool := fB (fOp (lift2 notInO) (fVar 6) (fVar 2))
def e_law_together_2 : M R := fVar 6
abbrev l_law_together_2 : M R := fLc (fTupI (fTup (fCons (fVar 4) (fCons (fVar 5) fNil)))) (bName 6) (t_law_together_1) (e_law_together_2) [6]
def b_law_together_3 : DSt → Flow := fIfS (fAnd (fB (fOp (lift2 inO) (fVar 4) (fVar 1))) (fAnd (fB (fOp (lift2 inO) (fVar 5) (fVar 1))) (fB (fOp (lift2 neO) (fOp (lift2 inO) (fVar 4) (fVar 2)) (fOp (lift2 inO) (fVar 5) (fVar 2)))))) (fSet 2 (fOp (lift2 addO) (fVar 2) (fLc (fTupI (fTup (fCons (fVar 4) (fCons (fVar 5) fNil)))) (bName 6) (t_law_together_1) (e_law_together_2) [6]))) fnext
abbrev o_law_together_3 : List PyData → DSt → Flow := loopF (bTup 2 (bCons (bName 4) (bCons (bName 5) bNil))) b_law_together_3
def b_law_together_4 : DSt → Flow := fFor (fLstI (fVar 0)) (bTup 2 (bCons (bName 4) (bCons (bName 5) bNil))) b_law_together_3
abbrev o_law_together_4 : List PyData → DSt → Flow := loopF (bName 3) b_law_together_4
def p_law_together : DSt → Flow := fseq (fSet 2 (fSlice (fVar 1) fNoPart (fPart (fC (.int 1))))) (fseq (fFor (fRng1 (pCons (fCall lenO (pCons (fVar 1) fNil)) fNil)) (bName 3) b_law_together_4) (fRet (fOp (lift2 eqO) (fCall lenO (pCons (fVar 2) fNil)) (fCall lenO (pCons (fVar 1) fNil)))))
def F_law_together : List R → Pw → FRes := runF 7 2 p_law_together
/-! what hangs together -/
def stepT (some : List Int) (found : List Int) (p : Int × Int) : List Int := if p.1 ∈ some ∧ p.2 ∈ some ∧ ¬ ((p.1 ∈ found) ↔ (p.2 ∈ found)) then found ++ [p.1, p.2].filter (fun x => decide (x ∉ found)) else found
def passT (ties : List (Int × Int)) (some found : List Int) : List Int := ties.foldl (stepT some) found
def itT (ties : List (Int × Int)) (some found : List Int) : Nat → List Int
  | 0 => found
  | n + 1 => passT ties some (itT ties some found n)
def clT (ties : List (Int × Int)) (some : List Int) (x : Int) : List Int := itT ties some [x] some.length
def OkF (some found : List Int) : Prop := found.Nodup ∧ ∀ x ∈ found, x ∈ some
/-! ### the walks -/
end DL

noncomputable section
namespace DL
open PySem L2

@[simp] theorem x_isT_dict {kvs : List (PyData × PyData)} {m : String} : isT m (.dict kvs) = (m == "dict") := by simp [isT, isN, tyN]
def isI : PyData → Bool | .int _ => true | _ => false
def nameB : PyData → Bool | .int n => decide (0 ≤ n) | _ => false
theorem is_number_any {d : PyData} {w : Pw} : F_is_number [.val d] w = .ok (.val (.bool (isI d))) w := by
  unfold F_is_number p_is_number
  simp only [x_runF]
  cases d <;> simp -implicitDefEqProofs [isI]
theorem nub_of {ns : List Int} : ∀ i, i ≤ ns.length → (PyProof.Rows.firstMet (fun i => ns.getD i 0) i).length = i → PyProof.Rows.firstMet (fun i => ns.getD i 0) i = ns.take i ∧ (ns.take i).Nodup
  | 0, _, _ => by simp [PyProof.Rows.firstMet_zero]
  | i + 1, hi, h => by
    have hle := PyProof.Rows.firstMet_length_le (fun i => ns.getD i 0) i
    rw [PyProof.Rows.firstMet_succ] at h ⊢
    have ex : ns.getD i 0 = ns[i] := by simp [List.getD_eq_getElem?_getD, List.getElem?_eq_getElem (by omega : i < ns.length)]
    rw [ex] at h ⊢
    unfold PyProof.Rows.step_dedup at h ⊢
    by_cases q : ((PyProof.Rows.firstMet (fun i => ns.getD i 0) i).any (· == ns[i])) = true
    · rw [if_pos q] at h
      omega
    · rw [if_neg q] at h ⊢
      simp only [List.length_append, List.length_cons, List.length_nil] at h
      obtain ⟨e1, e2⟩ := nub_of (ns := ns) i (by omega) (by omega)
      rw [e1] at q ⊢
      have et : ns.take (i + 1) = ns.take i ++ [ns[i]] := by rw [List.take_add_one, List.getElem?_eq_getElem (by omega : i < ns.length)]; rfl
      refine ⟨et.symm, ?_⟩
      rw [et, List.nodup_append]
      refine ⟨e2, by simp, fun a ha b hb => ?_⟩
      simp at hb
      subst hb
      rintro rfl
      exact q (List.any_eq_true.mpr ⟨_, ha, by simp⟩)
theorem nub_iff {ns : List Int} : (nubI ns).length = ns.length ↔ ns.Nodup := by
  refine ⟨fun h => ?_, nub_len⟩
  have := (nub_of (ns := ns) ns.length (Nat.le_refl _) h).2
  rwa [List.take_length] at this
theorem nub_dec {ns : List Int} : decide (((nubI ns).length : Int) = (ns.length : Int)) = decide ns.Nodup := by
  rw [decide_eq_decide, ← nub_iff]
  omega
/-! ### what is a list of unlike names -/
theorem nameB_ints : ∀ {ds : List PyData}, ds.all nameB = true → ∃ ns : List Int, ds = ns.map .int ∧ ∀ x ∈ ns, 0 ≤ x
  | [], _ => ⟨[], rfl, by simp⟩
  | d :: ds, h => by
    simp at h
    obtain ⟨ns, rfl, h2⟩ := nameB_ints (ds := ds) (by simpa using h.2)
    cases d with
    | int n => exact ⟨n :: ns, rfl, by
        have h1 : 0 ≤ n := by simpa [nameB] using h.1
        simp [h1]
        exact h2⟩
    | _ => simp [nameB] at h
def unlikeB : PyData → Bool
  | .list ds => match intsD ds with
    | some ns => decide (ns.Nodup ∧ ∀ x ∈ ns, 0 ≤ x)
    | none => false
  | _ => false
theorem intsD_some : ∀ {ds : List PyData} {ns : List Int}, intsD ds = some ns → ds = ns.map .int
  | [], _, h => by cases h; rfl
  | .int n :: ds, ns, h => by
    unfold intsD at h
    cases q : intsD ds with
    | none => rw [q] at h; cases h
    | some ms => rw [q] at h; cases h; rw [intsD_some q]; rfl
  | .none :: _, _, h | .bool _ :: _, _, h | .str _ :: _, _, h | .list _ :: _, _, h | .tuple _ :: _, _, h | .dict _ :: _, _, h => by unfold intsD at h; cases h
theorem names_iff {ds : List PyData} : ds.all nameB = true ↔ ∃ ns : List Int, intsD ds = some ns ∧ ∀ x ∈ ns, 0 ≤ x := by
  constructor
  · intro h
    obtain ⟨ns, rfl, h2⟩ := nameB_ints h
    exact ⟨ns, intsD_map ns, h2⟩
  · rintro ⟨ns, h, h2⟩
    rw [intsD_some h]
    simpa [nameB] using h2
def lenOk (d : PyData) : Prop := match d with | .list ds => ds.length ≤ 4000 | _ => True
theorem unlike_any {d : PyData} {w : Pw} (hl : lenOk d) : F_are_unlike_names [.val d] w = .ok (.val (.bool (unlikeB d))) w := by
  cases d with
  | list ds =>
    have hl : ds.length ≤ 4000 := hl
    have e : fLc (fLstI (fVar 0)) (bName 1) fYes e_are_unlike_names_1 [1] ⟨[.val (.list ds), .no], w⟩ = .ok (.new (ds.map fun x => .bool (nameB x))) ⟨[.val (.list ds), .no], w⟩ := by
      refine lc_all (fun a : PyData => ⟨[.val (.list ds), .val a], w⟩) _ (f := id) (l := ds) (by simp -implicitDefEqProofs) (by omega) rfl (fun a _ => by rfl) (fun a _ => by rfl) (fun a _ => ?_)
      unfold e_are_unlike_names_1
      cases a <;> simp -implicitDefEqProofs [is_number_any, isI, nameB]
    by_cases h : ds.all nameB = true
    · obtain ⟨ns, e1, e2⟩ := names_iff.mp h
      have h' : (ds.map nameB).all id = true := by simpa using h
      have el : ds.length = ns.length := by rw [intsD_some e1]; simp
      have eu : unlikeB (.list ds) = decide ns.Nodup := by
        show (match intsD ds with | some ns => decide (ns.Nodup ∧ ∀ x ∈ ns, 0 ≤ x) | none => false) = _
        rw [e1]
        simp
        exact fun _ => e2
      have hl2 : ns.length ≤ 4000 := by omega
      have en := nub_dec (ns := ns)
      unfold F_are_unlike_names p_are_unlike_names
      simp only [x_runF]
      simp -implicitDefEqProofs [e, boolsD_map', h', e1, hl2, el, en, eu]
    · have h' : (ds.map nameB).all id = false := by simpa using h
      have eu : unlikeB (.list ds) = false := by
        rw [Bool.eq_false_iff]
        intro z
        unfold unlikeB at z
        dsimp only at z
        split at z
        · rename_i ns e1
          exact h (names_iff.mpr ⟨ns, e1, (of_decide_eq_true z).2⟩)
        · cases z
      unfold F_are_unlike_names p_are_unlike_names
      simp only [x_runF]
      simp -implicitDefEqProofs [e, boolsD_map', h', eu]
  | _ =>
    unfold F_are_unlike_names p_are_unlike_names
    simp only [x_runF]
    simp -implicitDefEqProofs [unlikeB]

instance (ns : List Int) : Decidable (Rank ns) := Classical.propDecidable _
def rankB : PyData → Bool
  | .list ds => match intsD ds with
    | some ns => decide (Rank ns)
    | none => false
  | _ => false
theorem rankB_ints {ns : List Int} : rankB (.list (ns.map .int)) = decide (Rank ns) := by
  show (match intsD (ns.map .int) with | some ns => decide (Rank ns) | none => false) = _
  rw [intsD_map]
theorem is_ranking_any {d : PyData} {w : Pw} (hl : lenOk d) : F_is_ranking [.val d] w = .ok (.val (.bool (rankB d))) w := by
  have hu := unlike_any (w := w) hl
  cases d with
  | list ds =>
    have hl : ds.length ≤ 4000 := hl
    cases e : intsD ds with
    | none =>
      have e1 : unlikeB (.list ds) = false := by
        show (match intsD ds with | some ns => decide (ns.Nodup ∧ ∀ x ∈ ns, 0 ≤ x) | none => false) = _
        rw [e]
      have e2 : rankB (.list ds) = false := by
        show (match intsD ds with | some ns => decide (Rank ns) | none => false) = _
        rw [e]
      rw [e1] at hu
      unfold F_is_ranking p_is_ranking
      simp only [x_runF]
      simp -implicitDefEqProofs [hu, e2]
    | some ns =>
      obtain rfl := intsD_some e
      have e1 : unlikeB (.list (ns.map .int)) = decide (ns.Nodup ∧ ∀ x ∈ ns, 0 ≤ x) := by
        show (match intsD (ns.map .int) with | some ns => decide (ns.Nodup ∧ ∀ x ∈ ns, 0 ≤ x) | none => false) = _
        rw [e]
      rw [e1] at hu
      rw [rankB_ints]
      by_cases h1 : ns.Nodup ∧ ∀ x ∈ ns, 0 ≤ x
      · have hd : decide (ns.Nodup ∧ ∀ x ∈ ns, 0 ≤ x) = true := decide_eq_true h1
        rw [hd] at hu
        by_cases h2 : 0 < ns.length
        · have er : decide (Rank ns) = decide ((ns.length : Int) ≤ 10) := by
            rw [decide_eq_decide]
            unfold Rank
            constructor
            · rintro ⟨_, _, _, h⟩; omega
            · intro h; exact ⟨h1.1, h1.2, h2, by omega⟩
          unfold F_is_ranking p_is_ranking
          simp only [x_runF]
          simp -implicitDefEqProofs [hu, h2, er]
        · have er : decide (Rank ns) = false := decide_eq_false fun z => h2 z.2.2.1
          unfold F_is_ranking p_is_ranking
          simp only [x_runF]
          simp -implicitDefEqProofs [hu, h2, er]
      · have hd : decide (ns.Nodup ∧ ∀ x ∈ ns, 0 ≤ x) = false := decide_eq_false h1
        have er : decide (Rank ns) = false := decide_eq_false fun z => h1 ⟨z.1, z.2.1⟩
        rw [hd] at hu
        unfold F_is_ranking p_is_ranking
        simp only [x_runF]
        simp -implicitDefEqProofs [hu, er]
  | _ =>
    unfold F_is_ranking p_is_ranking
    simp only [x_runF]
    simp -implicitDefEqProofs [hu, unlikeB, rankB]

end DL

noncomputable section
namespace DL
open PySem L2

/-! ### falling along a line: the plain law -/
def cvx (L Q : List Int) : Prop := ∀ u ∈ Q, ∀ v ∈ Q, ∀ t ∈ L, L.idxOf u < L.idxOf t → L.idxOf t < L.idxOf v → t ∈ Q
def noV (L r : List Int) : Prop := ∀ u ∈ L, ∀ t ∈ L, ∀ v ∈ L, L.idxOf u < L.idxOf t → L.idxOf t < L.idxOf v → ¬ (r.idxOf u < r.idxOf t ∧ r.idxOf v < r.idxOf t)
def goB (ok : List Int → Int → Bool) : List Int → List Int → Bool
  | _, [] => true
  | Q, a :: l => ok Q a && goB ok (Q ++ [a]) l
/-! least and greatest places -/
def plI (L : List Int) (x : Int) : Int := (L.idxOf x : Nat)
def ok1 (L : List Int) (Q : List Int) (a : Int) : Bool := decide (plI L a = minI (Q.map (plI L)) - 1) || decide (plI L a = maxI (Q.map (plI L)) + 1)
def ok2 (L : List Int) (Q : List Int) (a : Int) : Bool := decide (maxI ((Q ++ [a]).map (plI L)) - minI ((Q ++ [a]).map (plI L)) = ((Q ++ [a]).length : Int) - 1)
end DL

noncomputable section
namespace DL
open PySem L2

/-! rankings that fall, taken from the ends -/
def pick : List Int → List Bool → List Int
  | L, [] => L
  | L, b :: bs => match b with
    | false => L.take 1 ++ pick (L.drop 1) bs
    | true => L.drop (L.length - 1) ++ pick L.dropLast bs
/-! bits and numbers -/
def valA : Nat → List Bool → Nat
  | c, [] => c
  | c, b :: bs => valA (2 * c + b.toNat) bs
def bitsN : Nat → Nat → List Bool
  | 0, _ => []
  | k + 1, n => decide (2 ^ k ≤ n) :: bitsN k (n % 2 ^ k)
end DL

noncomputable section
namespace DL
open PySem L2
def e_cut_down_1 : M R := fOp (lift2 inO) (fVar 2) (fVar 0)
abbrev l_cut_down_1 : M R := fLc (fLstI (fVar 1)) (bName 2) fYes (e_cut_down_1) [2]
def t_cut_down_2 : M Bool := fB (fOp (lift2 inO) (fVar 2) (fVar 1))
def e_cut_down_3 : M R := fVar 2
abbrev l_cut_down_3 : M R := fLc (fLstI (fVar 0)) (bName 2) (t_cut_down_2) (e_cut_down_3) [2]
def p_cut_down : DSt → Flow := fseq (fDrop (fUser F_must_be_ranking (fCons (fVar 0) fNil))) (fseq (fIfS (fOr (fB (fOp (lift2 ltO) (fCall lenO (pCons (fVar 1) fNil)) (fC (.int 1)))) (fNot (fB (fCall allO (pCons (fLc (fLstI (fVar 1)) (bName 2) fYes (e_cut_down_1) [2]) fNil))))) (fRaise "NoNames") fnext) (fRet (fLc (fLstI (fVar 0)) (bName 2) (t_cut_down_2) (e_cut_down_3) [2])))
def F_cut_down : List R → Pw → FRes := runF 3 2 p_cut_down
/-! cutting down -/
def cutL (r some : List Int) : List Int := r.filter fun x => decide (x ∈ some)
end DL

noncomputable section
namespace DL
open PySem L2

/-! what falls is taken from the ends -/
end DL

noncomputable section
namespace DL
open PySem L2
def p_is_line : DSt → Flow := fRet (fUser F_is_ranking (fCons (fVar 0) fNil))
def F_is_line : List R → Pw → FRes := runF 1 1 p_is_line
def p_must_be_line : DSt → Flow := fIfS (fNot (fB (fUser F_is_line (fCons (fVar 0) fNil)))) (fRaise "NoLine") fnext
def F_must_be_line : List R → Pw → FRes := runF 1 1 p_must_be_line
def p_must_be_on : DSt → Flow := fseq (fDrop (fUser F_must_be_line (fCons (fVar 0) fNil))) (fseq (fDrop (fUser F_must_be_ranking (fCons (fVar 1) fNil))) (fIfS (fB (fOp (lift2 neO) (fCall sortedO (pCons (fVar 0) fNil)) (fCall sortedO (pCons (fVar 1) fNil)))) (fRaise "NoFit") fnext))
def F_must_be_on : List R → Pw → FRes := runF 2 2 p_must_be_on
def b_does_fall_1 : DSt → Flow := fseq (fSet 5 (fIndex (fVar 0) (fVar 4))) (fseq (fIfS (fAnd (fB (fOp (lift2 neO) (fVar 5) (fOp (lift2 subO) (fVar 2) (fC (.int 1))))) (fB (fOp (lift2 neO) (fVar 5) (fOp (lift2 addO) (fVar 3) (fC (.int 1)))))) (fRet (fC (.bool false))) fnext) (fseq (fSet 2 (fCall minO (pCons (fVar 2) (pCons (fVar 5) fNil)))) (fSet 3 (fCall maxO (pCons (fVar 3) (pCons (fVar 5) fNil))))))
abbrev o_does_fall_1 : List PyData → DSt → Flow := loopF (bName 4) b_does_fall_1
def p_does_fall : DSt → Flow := fseq (fSet 2 (fIndex (fVar 0) (fOp (lift2 ixO) (fVar 1) (fC (.int 0))))) (fseq (fSet 3 (fVar 2)) (fseq (fFor (fLstI (fSlice (fVar 1) (fPart (fC (.int 1))) fNoPart)) (bName 4) b_does_fall_1) (fRet (fC (.bool true)))))
def F_does_fall : List R → Pw → FRes := runF 6 2 p_does_fall
def p_falls : DSt → Flow := fseq (fDrop (fUser F_must_be_on (fCons (fVar 0) (fCons (fVar 1) fNil)))) (fRet (fUser F_does_fall (fCons (fVar 0) (fCons (fVar 1) fNil))))
def F_falls : List R → Pw → FRes := runF 2 2 p_falls
def b_law_falls_1 : DSt → Flow := fseq (fDrop (fApp 2 (fIndex (fVar 0) (fVar 3)))) (fIfS (fB (fOp (lift2 neO) (fOp (lift2 subO) (fCall maxO (pCons (fVar 2) fNil)) (fCall minO (pCons (fVar 2) fNil))) (fOp (lift2 subO) (fCall lenO (pCons (fVar 2) fNil)) (fC (.int 1))))) (fRet (fC (.bool false))) fnext)
abbrev o_law_falls_1 : List PyData → DSt → Flow := loopF (bName 3) b_law_falls_1
def p_law_falls : DSt → Flow := fseq (fSet 2 (fLst fNil)) (fseq (fFor (fLstI (fVar 1)) (bName 3) b_law_falls_1) (fRet (fC (.bool true))))
def F_law_falls : List R → Pw → FRes := runF 4 2 p_law_falls
def c_law_falling_1 : M Bool := fB (fOp (lift2 neO) (fVar 2) (fLst fNil))
def b_law_falling_2 : DSt → Flow := fDrop (fApp 3 (fPopAt 2 (fOp (lift2 mulO) (fOp (lift2 subO) (fCall lenO (pCons (fVar 2) fNil)) (fC (.int 1))) (fUser F_law_draw (fCons (fVar 0) (fCons (fC (.int 2)) fNil))))))
abbrev o_law_falling_2 : DSt → Flow := whileF c_law_falling_1 b_law_falling_2 10000
def p_law_falling : DSt → Flow := fseq (fSet 2 (fCall listO (pCons (fVar 1) fNil))) (fseq (fSet 3 (fLst fNil)) (fseq (whileF c_law_falling_1 b_law_falling_2 10000) (fRet (fUn (lift1 revO) (fVar 3)))))
def F_law_falling : List R → Pw → FRes := runF 4 2 p_law_falling
def fallB (L r : List Int) : Bool := @decide (noV L r) (Classical.propDecidable _)
end DL

noncomputable section
namespace DL
open PySem L2
def e_grown_1 : M R := fOp (lift2 addO) (fLst (fCons (fVar 2) fNil)) (fVar 3)
abbrev l_grown_1 : M R := fLc (fLstI (fVar 1)) (bName 3) fYes (e_grown_1) [3]
def e_grown_2 : M R := fOp (lift2 addO) (fVar 3) (fLst (fCons (fVar 2) fNil))
abbrev l_grown_2 : M R := fLc (fLstI (fVar 1)) (bName 3) fYes (e_grown_2) [3]
def b_grown_3 : DSt → Flow := fSet 1 (fOp (lift2 addO) (fLc (fLstI (fVar 1)) (bName 3) fYes (e_grown_1) [3]) (fLc (fLstI (fVar 1)) (bName 3) fYes (e_grown_2) [3]))
abbrev o_grown_3 : List PyData → DSt → Flow := loopF (bName 2) b_grown_3
def p_grown : DSt → Flow := fseq (fSet 1 (fLst (fCons (fSlice (fVar 0) fNoPart (fPart (fC (.int 1)))) fNil))) (fseq (fFor (fLstI (fSlice (fVar 0) (fPart (fC (.int 1))) fNoPart)) (bName 2) b_grown_3) (fRet (fCall sortedO (pCons (fVar 1) fNil))))
def F_grown : List R → Pw → FRes := runF 4 1 p_grown
def e_is_folk_1 : M R := fUser F_is_ranking (fCons (fVar 1) fNil)
abbrev l_is_folk_1 : M R := fLc (fLstI (fVar 0)) (bName 1) fYes (e_is_folk_1) [1]
def e_is_folk_2 : M R := fOp (lift2 eqO) (fCall sortedO (pCons (fVar 1) fNil)) (fCall sortedO (pCons (fOp (lift2 ixO) (fVar 0) (fC (.int 0))) fNil))
abbrev l_is_folk_2 : M R := fLc (fLstI (fVar 0)) (bName 1) fYes (e_is_folk_2) [1]
def p_is_folk : DSt → Flow := fseq (fIfS (fOr (fNot (fB (fIsi "list" (fVar 0)))) (fOr (fB (fOp (lift2 ltO) (fCall lenO (pCons (fVar 0) fNil)) (fC (.int 1)))) (fB (fOp (lift2 gtO) (fCall lenO (pCons (fVar 0) fNil)) (fC (.int 20)))))) (fRet (fC (.bool false))) fnext) (fseq (fIfS (fNot (fB (fCall allO (pCons (fLc (fLstI (fVar 0)) (bName 1) fYes (e_is_folk_1) [1]) fNil)))) (fRet (fC (.bool false))) fnext) (fRet (fCall allO (pCons (fLc (fLstI (fVar 0)) (bName 1) fYes (e_is_folk_2) [1]) fNil))))
def F_is_folk : List R → Pw → FRes := runF 2 1 p_is_folk
def p_must_be_folk : DSt → Flow := fIfS (fNot (fB (fUser F_is_folk (fCons (fVar 0) fNil)))) (fRaise "NoFolk") fnext
def F_must_be_folk : List R → Pw → FRes := runF 1 1 p_must_be_folk
def e_lines_for_1 : M R := fUser F_does_fall (fCons (fVar 1) (fCons (fVar 2) fNil))
abbrev l_lines_for_1 : M R := fLc (fLstI (fVar 0)) (bName 2) fYes (e_lines_for_1) [2]
def t_lines_for_2 : M Bool := fB (fCall allO (pCons (fLc (fLstI (fVar 0)) (bName 2) fYes (e_lines_for_1) [2]) fNil))
def e_lines_for_3 : M R := fVar 1
abbrev l_lines_for_3 : M R := fLc (fLstI (fUser F_grown (fCons (fOp (lift2 ixO) (fVar 0) (fC (.int 0))) fNil))) (bName 1) (t_lines_for_2) (e_lines_for_3) [1]
def p_lines_for : DSt → Flow := fRet (fLc (fLstI (fUser F_grown (fCons (fOp (lift2 ixO) (fVar 0) (fC (.int 0))) fNil))) (bName 1) (t_lines_for_2) (e_lines_for_3) [1])
def F_lines_for : List R → Pw → FRes := runF 3 1 p_lines_for
def p_all_lines : DSt → Flow := fseq (fDrop (fUser F_must_be_folk (fCons (fVar 0) fNil))) (fRet (fUser F_lines_for (fCons (fVar 0) fNil)))
def F_all_lines : List R → Pw → FRes := runF 1 1 p_all_lines
/-! lines made from the best name outwards -/
def grS (F : List (List Int)) (a : Int) : List (List Int) := F.map (fun l => a :: l) ++ F.map fun l => l ++ [a]
def grL (r : List Int) : List (List Int) := (r.drop 1).foldl grS [r.take 1]
def grownL (r : List Int) : List (List Int) := sortLL (grL r)
end DL

noncomputable section
namespace DL
open PySem L2

def Folk (f : List (List Int)) : Prop := 0 < f.length ∧ f.length ≤ 20 ∧ ∀ r ∈ f, Rank r ∧ ∀ q ∈ f, q.Perm r
def linesF (f : List (List Int)) : List (List Int) := (grownL (f.headD [])).filter fun ℓ => f.all fun r => fallB ℓ r
end DL

noncomputable section
namespace DL
open PySem L2

def bdd : Nat → PyData → Prop
  | _, .none | _, .bool _ | _, .int _ | _, .str _ => True
  | n + 1, .list ds => ds.length ≤ 1000 ∧ ∀ d ∈ ds, bdd n d
  | n + 1, .tuple ds => ds.length ≤ 1000 ∧ ∀ d ∈ ds, bdd n d
  | _, _ => False
@[simp] theorem bdd_none {n : Nat} : bdd n .none := by cases n <;> simp [bdd]
@[simp] theorem bdd_bool {n : Nat} {b : Bool} : bdd n (.bool b) := by cases n <;> simp [bdd]
@[simp] theorem bdd_int {n : Nat} {b : Int} : bdd n (.int b) := by cases n <;> simp [bdd]
@[simp] theorem bdd_str {n : Nat} {b : Str} : bdd n (.str b) := by cases n <;> simp [bdd]
@[simp] theorem bdd_list {n : Nat} {ds : List PyData} : bdd (n + 1) (.list ds) ↔ ds.length ≤ 1000 ∧ ∀ d ∈ ds, bdd n d := by simp [bdd]
@[simp] theorem bdd_tuple {n : Nat} {ds : List PyData} : bdd (n + 1) (.tuple ds) ↔ ds.length ≤ 1000 ∧ ∀ d ∈ ds, bdd n d := by simp [bdd]
theorem plainAll_of {ds : List PyData} (h : ∀ d ∈ ds, d.plain = true) : PyData.plainAll ds = true := by
  induction ds with
  | nil => rfl
  | cons d ds ih => simp [PyData.plainAll, h d List.mem_cons_self, ih fun d hd => h d (List.mem_cons_of_mem _ hd)]
theorem bdd_plain : ∀ {n : Nat} {d : PyData}, bdd n d → d.plain = true
  | _, .none, _ | _, .bool _, _ | _, .int _, _ | _, .str _, _ => rfl
  | n + 1, .list ds, b => by
    rw [bdd_list] at b
    simp only [PyData.plain]
    exact plainAll_of fun d hd => bdd_plain (b.2 d hd)
  | n + 1, .tuple ds, b => by
    rw [bdd_tuple] at b
    simp only [PyData.plain]
    exact plainAll_of fun d hd => bdd_plain (b.2 d hd)
  | 0, .list ds, b => by unfold bdd at b; exact b.elim
  | 0, .tuple ds, b => by unfold bdd at b; exact b.elim
  | 0, .dict _, b => by unfold bdd at b; exact b.elim
  | _ + 1, .dict _, b => by unfold bdd at b; exact b.elim
theorem bdd_dep : ∀ {n : Nat} {d : PyData}, bdd n d → d.depth ≤ n
  | _, .none, _ | _, .bool _, _ | _, .int _, _ | _, .str _, _ => by simp [PyData.depth]
  | n + 1, .list ds, b => by
    rw [bdd_list] at b
    have : PyData.depthAll ds ≤ n := depthAll_le.mpr fun d hd => bdd_dep (b.2 d hd)
    simp [PyData.depth]
    omega
  | n + 1, .tuple ds, b => by
    rw [bdd_tuple] at b
    have : PyData.depthAll ds ≤ n := depthAll_le.mpr fun d hd => bdd_dep (b.2 d hd)
    simp [PyData.depth]
    omega
  | 0, .list ds, b => by unfold bdd at b; exact b.elim
  | 0, .tuple ds, b => by unfold bdd at b; exact b.elim
  | 0, .dict _, b => by unfold bdd at b; exact b.elim
  | _ + 1, .dict _, b => by unfold bdd at b; exact b.elim
theorem neO_self {n : Nat} {d : PyData} (b : bdd n d) (hn : n ≤ 60) : neO d d = some (.val (.bool false)) := by
  unfold neO
  have := bdd_dep b
  rw [if_pos (by rw [Nat.min_self]; omega), PySem.SeqAt.eqv_refl_plain d (bdd_plain b)]
  rfl
/-! ### a folk -/
def folkB (d : PyData) : Bool := @decide (∃ f : List (List Int), d = .list (f.map llD) ∧ Folk f) (Classical.propDecidable _)
end DL

noncomputable section
namespace DL
open PySem L2
def p_is_tie : DSt → Flow := fseq (fIfS (fOr (fNot (fB (fIsi "tuple" (fVar 1)))) (fOr (fB (fOp (lift2 neO) (fCall lenO (pCons (fVar 1) fNil)) (fC (.int 2)))) (fOr (fNot (fB (fUser F_is_number (fCons (fOp (lift2 ixO) (fVar 1) (fC (.int 0))) fNil)))) (fNot (fB (fUser F_is_number (fCons (fOp (lift2 ixO) (fVar 1) (fC (.int 1))) fNil))))))) (fRet (fC (.bool false))) fnext) (fRet (fAndV (fOp (lift2 ltO) (fOp (lift2 ixO) (fVar 1) (fC (.int 0))) (fOp (lift2 ixO) (fVar 1) (fC (.int 1)))) (fAndV (fOp (lift2 inO) (fOp (lift2 ixO) (fVar 1) (fC (.int 0))) (fVar 0)) (fOp (lift2 inO) (fOp (lift2 ixO) (fVar 1) (fC (.int 1))) (fVar 0)))))
def F_is_tie : List R → Pw → FRes := runF 2 2 p_is_tie
def e_is_right_tree_v2_1 : M R := fUser F_is_tie (fCons (fVar 0) (fCons (fVar 2) fNil))
abbrev l_is_right_tree_v2_1 : M R := fLc (fLstI (fVar 1)) (bName 2) fYes (e_is_right_tree_v2_1) [2]
def p_is_right_tree_v2 : DSt → Flow := fseq (fIfS (fOr (fNot (fB (fIsi "list" (fVar 1)))) (fOr (fB (fOp (lift2 neO) (fCall lenO (pCons (fVar 1) fNil)) (fOp (lift2 subO) (fCall lenO (pCons (fVar 0) fNil)) (fC (.int 1))))) (fNot (fB (fCall allO (pCons (fLc (fLstI (fVar 1)) (bName 2) fYes (e_is_right_tree_v2_1) [2]) fNil)))))) (fRet (fC (.bool false))) fnext) (fRet (fAndV (fOp (lift2 eqO) (fVar 1) (fSortSetP (fVar 1))) (fUser F_hang_together (fCons (fVar 1) (fCons (fVar 0) fNil)))))
def F_is_right_tree_v2 : List R → Pw → FRes := runF 3 2 p_is_right_tree_v2
def p_law_whole : DSt → Flow := fRet (fAndV (fIsi "int" (fVar 0)) (fV (fNot (fB (fIsi "bool" (fVar 0))))))
def F_law_whole : List R → Pw → FRes := runF 1 1 p_law_whole
def b_law_is_tree_v2_1 : DSt → Flow := fseq (fIfS (fOr (fNot (fB (fIsi "tuple" (fVar 2)))) (fOr (fB (fOp (lift2 neO) (fCall lenO (pCons (fVar 2) fNil)) (fC (.int 2)))) (fOr (fNot (fB (fUser F_law_whole (fCons (fOp (lift2 ixO) (fVar 2) (fC (.int 0))) fNil)))) (fNot (fB (fUser F_law_whole (fCons (fOp (lift2 ixO) (fVar 2) (fC (.int 1))) fNil))))))) (fRet (fC (.bool false))) fnext) (fIfS (fOr (fB (fOp (lift2 geO) (fOp (lift2 ixO) (fVar 2) (fC (.int 0))) (fOp (lift2 ixO) (fVar 2) (fC (.int 1))))) (fOr (fB (fOp (lift2 notInO) (fOp (lift2 ixO) (fVar 2) (fC (.int 0))) (fVar 0))) (fB (fOp (lift2 notInO) (fOp (lift2 ixO) (fVar 2) (fC (.int 1))) (fVar 0))))) (fRet (fC (.bool false))) fnext)
abbrev o_law_is_tree_v2_1 : List PyData → DSt → Flow := loopF (bName 2) b_law_is_tree_v2_1
def p_law_is_tree_v2 : DSt → Flow := fseq (fIfS (fOr (fNot (fB (fIsi "list" (fVar 1)))) (fB (fOp (lift2 neO) (fCall lenO (pCons (fVar 1) fNil)) (fOp (lift2 subO) (fCall lenO (pCons (fVar 0) fNil)) (fC (.int 1)))))) (fRet (fC (.bool false))) fnext) (fseq (fFor (fLstI (fVar 1)) (bName 2) b_law_is_tree_v2_1) (fRet (fAndV (fOp (lift2 eqO) (fVar 1) (fSortSetP (fVar 1))) (fUser F_law_together (fCons (fVar 1) (fCons (fVar 0) fNil))))))
def F_law_is_tree_v2 : List R → Pw → FRes := runF 3 2 p_law_is_tree_v2
/-! trees looked at, whatever they are -/
def tieB (N : List Int) : PyData → Bool
  | .tuple [.int a, .int b] => decide (a < b ∧ a ∈ N ∧ b ∈ N)
  | _ => false
def TreeP (N : List Int) (ps : List (Int × Int)) : Prop := ps.length + 1 = N.length ∧ (∀ p ∈ ps, p.1 < p.2 ∧ p.1 ∈ N ∧ p.2 ∈ N) ∧ ps.Pairwise ltP ∧ (clT ps N (N.headD 0)).length = N.length
instance (N : List Int) (ps : List (Int × Int)) : Decidable (TreeP N ps) := Classical.propDecidable _
def treeB (N : List Int) : PyData → Bool
  | .list ds => match pairsD ds with
    | some ps => decide (TreeP N ps)
    | none => false
  | _ => false
theorem ixN_in {n i : Nat} (h : i < n) : ixN n (i : Int) = some i := by
  unfold ixN
  rw [if_pos (by omega), if_pos (by omega)]
  simp
end DL

noncomputable section
namespace DL
open PySem L2
def e_law_copied_1 (rec : List R → Pw → FRes) : M R := fUser rec (fCons (fVar 1) fNil)
abbrev l_law_copied_1 (rec : List R → Pw → FRes) : M R := fLc (fLstI (fVar 0)) (bName 1) fYes ((e_law_copied_1 rec)) [1]
def e_law_copied_2 (rec : List R → Pw → FRes) : M R := fUser rec (fCons (fVar 1) fNil)
abbrev l_law_copied_2 (rec : List R → Pw → FRes) : M R := fLc (fLstI (fVar 0)) (bName 1) fYes ((e_law_copied_2 rec)) [1]
def p_law_copied (rec : List R → Pw → FRes) : DSt → Flow := fseq (fIfS (fB (fIsi "tuple" (fVar 0))) (fRet (fCall tupleO (pCons (fLc (fLstI (fVar 0)) (bName 1) fYes ((e_law_copied_1 rec)) [1]) fNil))) fnext) (fseq (fIfS (fB (fIsi "list" (fVar 0))) (fRet (fLc (fLstI (fVar 0)) (bName 1) fYes ((e_law_copied_2 rec)) [1])) fnext) (fRet (fVar 0)))
def F_law_copied : Nat → List R → Pw → FRes
  | 0 => runF 2 1 fnever
  | m + 1 => runF 2 1 (p_law_copied (F_law_copied m))
/-! copies -/
@[simp] theorem atI_litC {α : Type} {xs : List α} {k : Nat} : atI xs (no_index (OfNat.ofNat k)) = xs[k]? := by
  show atI xs ((k : Nat) : Int) = _
  exact atI_nat
def cpC : PyData → R
  | .list ds => .new ds
  | d => .val d
def tgC (p : Str × Bool) : PyData := .tuple [.str p.1, .bool p.2]
end DL

noncomputable section
namespace DL
open PySem L2
def e_number_of_v2_1 : M R := fOp (lift2 (sgO false)) (fVar 1) (fC (.str "0123456789"))
abbrev l_number_of_v2_1 : M R := fLc (fStrI (fVar 0)) (bName 1) fYes (e_number_of_v2_1) [1]
def p_number_of_v2 : DSt → Flow := fseq (fIfS (fOr (fB (fOp (lift2 eqO) (fVar 0) (fC (.str "")))) (fOr (fB (fOp (lift2 gtO) (fCall lenO (pCons (fVar 0) fNil)) (fC (.int 30)))) (fNot (fB (fCall allO (pCons (fLc (fStrI (fVar 0)) (bName 1) fYes (e_number_of_v2_1) [1]) fNil)))))) (fRet (fC .none)) fnext) (fseq (fIfS (fAnd (fB (fOp (lift2 eqO) (fOp (lift2 ixO) (fVar 0) (fC (.int 0))) (fC (.str "0")))) (fB (fOp (lift2 neO) (fVar 0) (fC (.str "0"))))) (fRet (fC .none)) fnext) (fRet (fCall intTO (pCons (fVar 0) fNil))))
def F_number_of_v2 : List R → Pw → FRes := runF 2 1 p_number_of_v2
def e_ranking_of_v3_1 : M R := fUser F_number_of_v2 (fCons (fVar 2) fNil)
abbrev l_ranking_of_v3_1 : M R := fLc (fLstI (fSplit (fVar 0) (fC (.str ">")))) (bName 2) fYes (e_ranking_of_v3_1) [2]
def p_ranking_of_v3 : DSt → Flow := fseq (fSet 1 (fLc (fLstI (fSplit (fVar 0) (fC (.str ">")))) (bName 2) fYes (e_ranking_of_v3_1) [2])) (fseq (fIfS (fOr (fB (fOp (lift2 inO) (fC .none) (fVar 1))) (fNot (fB (fUserP F_is_ranking (pCons (fVar 1) fNil))))) (fRet (fC .none)) fnext) (fRet (fVar 1)))
def F_ranking_of_v3 : List R → Pw → FRes := runF 3 1 p_ranking_of_v3
def e_in_one_1 : M R := fStr (fVar 1)
abbrev l_in_one_1 : M R := fLc (fLstI (fVar 0)) (bName 1) fYes (e_in_one_1) [1]
def p_in_one : DSt → Flow := fRet (fJoin (fC (.str ">")) (fLc (fLstI (fVar 0)) (bName 1) fYes (e_in_one_1) [1]))
def F_in_one : List R → Pw → FRes := runF 2 1 p_in_one
def p_ranking_text : DSt → Flow := fseq (fDrop (fUser F_must_be_ranking (fCons (fVar 0) fNil))) (fRet (fUser F_in_one (fCons (fVar 0) fNil)))
def F_ranking_text : List R → Pw → FRes := runF 1 1 p_ranking_text
def p_read_ranking_v8 : DSt → Flow := fseq (fSet 1 (fUser F_ranking_of_v3 (fCons (fVar 0) fNil))) (fseq (fIfS (fB (fIsN false (fVar 1))) fnever fnext) (fRet (fVar 1)))
def F_read_ranking_v8 : List R → Pw → FRes := runF 2 1 p_read_ranking_v8
def e_folk_text_1 : M R := fOp (lift2 addO) (fUser F_in_one (fCons (fVar 1) fNil)) (fC (.str "\n"))
abbrev l_folk_text_1 : M R := fLc (fLstI (fVar 0)) (bName 1) fYes (e_folk_text_1) [1]
def p_folk_text : DSt → Flow := fseq (fDrop (fUser F_must_be_folk (fCons (fVar 0) fNil))) (fRet (fJoin (fC (.str "")) (fLc (fLstI (fVar 0)) (bName 1) fYes (e_folk_text_1) [1])))
def F_folk_text : List R → Pw → FRes := runF 2 1 p_folk_text
def b_read_folk_v5_1 : DSt → Flow := fseq (fSet 5 (fUser F_ranking_of_v3 (fCons (fVar 4) fNil))) (fseq (fIfS (fOr (fB (fIsN false (fVar 5))) (fOr (fB (fOp (lift2 geO) (fVar 3) (fC (.int 20)))) (fAnd (fB (fOp (lift2 neO) (fVar 2) (fLst fNil))) (fB (fOp (lift2 neO) (fCall sortedO (pCons (fVar 5) fNil)) (fCall sortedO (pCons (fOp (lift2 ixO) (fVar 2) (fC (.int 0))) fNil))))))) fnever fnext) (fDrop (fApp 2 (fVar 5))))
abbrev o_read_folk_v5_1 : List PyData → DSt → Flow := loopF (bTup 2 (bCons (bName 3) (bCons (bName 4) bNil))) b_read_folk_v5_1
def p_read_folk_v5 : DSt → Flow := fseq (fSet 1 (fSplit (fVar 0) (fC (.str "\n")))) (fseq (fSet 2 (fLst fNil)) (fseq (fFor (fEnum (fCons (fSlice (fVar 1) fNoPart (fPart (fUn (lift1 negO) (fC (.int 1))))) fNil)) (bTup 2 (bCons (bName 3) (bCons (bName 4) bNil))) b_read_folk_v5_1) (fseq (fIfS (fOr (fB (fOp (lift2 neO) (fOp (lift2 ixO) (fVar 1) (fUn (lift1 negO) (fC (.int 1)))) (fC (.str "")))) (fB (fOp (lift2 eqO) (fVar 2) (fLst fNil)))) fnever fnext) (fRet (fVar 2)))))
def F_read_folk_v5 : List R → Pw → FRes := runF 6 1 p_read_folk_v5
def e_law_word_1 : M R := fStr (fVar 1)
abbrev l_law_word_1 : M R := fLc (fLstI (fVar 0)) (bName 1) fYes (e_law_word_1) [1]
def p_law_word : DSt → Flow := fRet (fJoin (fC (.str ">")) (fLc (fLstI (fVar 0)) (bName 1) fYes (e_law_word_1) [1]))
def F_law_word : List R → Pw → FRes := runF 2 1 p_law_word
/-! rankings and folk as texts -/
def wI (i : Int) : Str := Str.ofString (toString i)
theorem tl_wI (n : Nat) : TL.tl (wI (n : Int)) = TL.numL n := TL.tl_num n
theorem wI_len (x : Str) : x.length = (TL.tl x).length := TL.len_tl x
theorem figures : TL.tl (Str.ofString "0123456789") = [48, 49, 50, 51, 52, 53, 54, 55, 56, 57] := by decide
theorem fig_mem {c : Nat} (h1 : 48 ≤ c) (h2 : c ≤ 57) : c ∈ (Str.ofString "0123456789").cps.toList := by
  show c ∈ TL.tl (Str.ofString "0123456789")
  rw [figures]
  simp
  omega
/-! a ranking's word -/
def okW (r : List Int) : Prop := ∀ x ∈ r, 0 ≤ x ∧ x < 10 ^ 30
def oneT (r : List Int) : Str := Txt.join (Str.ofString ">") (r.map wI)
theorem wI_nat {x : Int} (h : 0 ≤ x) : ∃ n : Nat, x = (n : Int) := Int.eq_ofNat_of_zero_le h |>.imp fun _ h => h
theorem wI_le {x : Int} (h : 0 ≤ x ∧ x < 10 ^ 30) : (wI x).length ≤ 30 ∧ (∀ s, s < 48 ∨ 57 < s → s ∉ TL.tl (wI x)) := by
  obtain ⟨n, rfl⟩ := wI_nat h.1
  have hn : n < 10 ^ 30 := by
    have := h.2
    have e : ((10 : Int) ^ 30) = ((10 ^ 30 : Nat) : Int) := by norm_cast
    rw [e] at this
    exact Int.ofNat_lt.mp this
  rw [wI_len, tl_wI]
  exact ⟨TL.numL_len (by omega) hn, fun s hs => TL.numL_free hs⟩
theorem sum_le {l : List Nat} {k : Nat} (h : ∀ x ∈ l, x ≤ k) : l.sum ≤ l.length * k := by
  induction l with
  | nil => simp
  | cons a l ih =>
    have := h a (by simp)
    have := ih fun x hx => h x (by simp [hx])
    rw [List.sum_cons, List.length_cons, Nat.succ_mul]
    omega
theorem leJ_of {a : Str} {ys : List Str} {k n : Nat} (ha : a.length ≤ 1) (hl : ys.length ≤ n) (h : ∀ y ∈ ys, y.length ≤ k) (hk : n * (k + 1) ≤ 16777216) : leJ a ys := by
  unfold leJ
  have h1 := sum_le (l := ys.map (·.length)) (k := k) fun x hx => by obtain ⟨y, hy, rfl⟩ := List.mem_map.mp hx; exact h y hy
  rw [List.length_map] at h1
  have h2 : ys.length * a.length ≤ ys.length * 1 := Nat.mul_le_mul_left _ ha
  have h3 : ys.length * k + ys.length * 1 ≤ n * (k + 1) := by rw [← Nat.mul_add]; exact Nat.mul_le_mul_right _ hl
  omega
theorem lg_ok {x : Int} (h : 0 ≤ x ∧ x < 10 ^ 30) : lgT x := by
  have b : (10 : Int) ^ 30 < 2 ^ 200 := by decide +kernel
  have c : -((2 : Int) ^ 200) < 0 := by decide +kernel
  have := log_small (a := x) (Int.lt_of_lt_of_le c h.1) (Int.lt_trans h.2 b)
  unfold lgT
  omega
end DL

noncomputable section
namespace DL
open PySem L2

theorem tl_gt : TL.tl (Str.ofString ">") = [62] := by decide
theorem tl_nl : TL.tl (Str.ofString "\n") = [10] := by decide
theorem len_joinL (S : List Nat) {k : Nat} : ∀ {ps : List (List Nat)}, (∀ p ∈ ps, p.length ≤ k) → (TL.joinL S ps).length ≤ ps.length * (k + S.length)
  | [], _ => by simp [TL.joinL]
  | [p], h => by
    have := h p (by simp)
    simp only [TL.joinL, List.length_cons, List.length_nil]
    omega
  | p :: q :: ps, h => by
    have h1 := h p (by simp)
    have h2 := len_joinL S (ps := q :: ps) fun x hx => h x (by simp [List.mem_cons.mp hx])
    simp only [TL.joinL, List.length_append, List.length_cons, Nat.succ_mul] at h2 ⊢
    omega
theorem tl_one {r : List Int} : TL.tl (oneT r) = TL.joinL [62] (r.map fun x => TL.tl (wI x)) := by
  unfold oneT
  rw [TL.join_eq, TL.tl_join, tl_gt, List.map_map]
  rfl
theorem one_len {r : List Int} (h : okW r) (hl : r.length ≤ 10) : (oneT r).length ≤ 310 := by
  rw [wI_len, tl_one]
  have := len_joinL [62] (k := 30) (ps := r.map fun x => TL.tl (wI x)) fun p hp => by
    obtain ⟨x, hx, rfl⟩ := List.mem_map.mp hp
    rw [← wI_len]
    exact (wI_le (h x hx)).1
  rw [List.length_map] at this
  have l1 : r.length * (30 + [62].length) ≤ 10 * 31 := Nat.mul_le_mul_right _ hl
  omega
theorem mem_joinL {S : List Nat} {c : Nat} : ∀ {ps : List (List Nat)}, c ∈ TL.joinL S ps → c ∈ S ∨ ∃ p ∈ ps, c ∈ p
  | [], h => by simp [TL.joinL] at h
  | [p], h => by simp only [TL.joinL] at h; exact .inr ⟨p, by simp, h⟩
  | p :: q :: ps, h => by
    simp only [TL.joinL, List.mem_append] at h
    rcases h with h | h | h
    · exact .inr ⟨p, by simp, h⟩
    · exact .inl h
    · rcases mem_joinL h with h | ⟨x, hx, h⟩
      · exact .inl h
      · exact .inr ⟨x, by simp [List.mem_cons.mp hx], h⟩
theorem one_free {r : List Int} (h : okW r) : (10 : Nat) ∉ TL.tl (oneT r) := fun z => by
  rw [tl_one] at z
  rcases mem_joinL z with z | ⟨p, hp, z⟩
  · simp at z
  · obtain ⟨x, hx, rfl⟩ := List.mem_map.mp hp
    exact (wI_le (h x hx)).2 10 (by omega) z
theorem none_in {ns : List Int} : inO .none (.list (ns.map .int)) = some (.val (.bool false)) := by
  have d : PyData.depth .none ≤ 60 := by decide
  unfold inO
  show (if min (PyData.depthAll (ns.map PyData.int)) (PyData.depth .none) ≤ 60 then some (R.val (.bool ((ns.map PyData.int).any fun z => PyData.eqv z .none))) else none) = _
  rw [if_pos (by omega)]
  have : ((ns.map PyData.int).any fun z => PyData.eqv z .none) = false := by
    rw [List.any_eq_false]
    intro y hy
    obtain ⟨b, hb, rfl⟩ := List.mem_map.mp hy
    simp [PyData.eqv]
  rw [this]
end DL

noncomputable section
namespace DL
open PySem L2

def rowT (r : List Int) : Str := oneT r ++ Str.ofString "\n"
def folkT (f : List (List Int)) : Str := Txt.join (Str.ofString "") (f.map rowT)
theorem joinL_nil : ∀ ps : List (List Nat), TL.joinL [] ps = ps.flatten
  | [] => rfl
  | [p] => by simp [TL.joinL]
  | p :: q :: ps => by
    have := joinL_nil (q :: ps)
    simp only [TL.joinL, List.nil_append, this, List.flatten_cons]
theorem tl_row {r : List Int} : TL.tl (rowT r) = TL.tl (oneT r) ++ [10] := by
  unfold rowT
  rw [TL.tl_append, tl_nl]
theorem tl_folk {f : List (List Int)} : TL.tl (folkT f) = (f.map fun r => TL.tl (oneT r) ++ [10]).flatten := by
  unfold folkT
  rw [TL.join_eq, TL.tl_join, show TL.tl (Str.ofString "") = [] by decide, joinL_nil, List.map_map]
  congr 1
  exact List.map_congr_left fun r _ => tl_row
theorem spl_rows : ∀ {f : List (List Int)}, (∀ r ∈ f, okW r) → TL.spl [10] 0 [] (f.map fun r => TL.tl (oneT r) ++ [10]).flatten = f.map (fun r => TL.tl (oneT r)) ++ [[]]
  | [], _ => by simp [TL.spl_nil]
  | r :: f, h => by
    have ih := spl_rows (f := f) fun x hx => h x (by simp [hx])
    have e := TL.spl_part1 (s := 10) (S := []) (p := TL.tl (oneT r)) (rest := (f.map fun r => TL.tl (oneT r) ++ [10]).flatten) (acc := []) (one_free (h r (by simp)))
    rw [ih] at e
    rw [List.map_cons, List.flatten_cons, List.append_assoc]
    exact e
theorem split_folk {f : List (List Int)} (h : ∀ r ∈ f, okW r) : Txt.split (folkT f) (Str.ofString "\n") = f.map oneT ++ [Str.ofString ""] := by
  refine TL.map_tl_inj ?_
  have e := TL.split_spl (folkT f) (Str.ofString "\n") (by rw [tl_nl]; simp) (TL.kind_ok (by decide +kernel))
  rw [e, tl_nl, tl_folk, spl_rows h, List.map_append, List.map_map]
  rfl
theorem sort_llD {r : List Int} : sortedO [.list (r.map .int)] = some (.new ((sortI r).map .int)) := by rw [x_sortedO, intsD_map]
end DL

noncomputable section
namespace DL
open PySem L2
def t_law_figured_v2_1 : M Bool := fB (fOp (lift2 (sgO true)) (fVar 1) (fC (.str "0123456789")))
def e_law_figured_v2_2 : M R := fVar 1
abbrev l_law_figured_v2_2 : M R := fLc (fStrI (fVar 0)) (bName 1) (t_law_figured_v2_1) (e_law_figured_v2_2) [1]
def p_law_figured_v2 : DSt → Flow := fseq (fIfS (fOr (fB (fOp (lift2 eqO) (fVar 0) (fC (.str "")))) (fOr (fB (fOp (lift2 gtO) (fCall lenO (pCons (fVar 0) fNil)) (fC (.int 30)))) (fB (fOp (lift2 neO) (fLc (fStrI (fVar 0)) (bName 1) (t_law_figured_v2_1) (e_law_figured_v2_2) [1]) (fLst fNil))))) (fRet (fC .none)) fnext) (fseq (fIfS (fAnd (fB (fOp (lift2 eqO) (fOp (lift2 ixO) (fVar 0) (fC (.int 0))) (fC (.str "0")))) (fB (fOp (lift2 neO) (fVar 0) (fC (.str "0"))))) (fRet (fC .none)) fnext) (fRet (fCall intTO (pCons (fVar 0) fNil))))
def F_law_figured_v2 : List R → Pw → FRes := runF 2 1 p_law_figured_v2
/-! texts of any kind: a number -/
def digB (x : Str) : Bool := (TL.tl x).all fun c => decide (48 ≤ c ∧ c ≤ 57)
theorem digB_iff {x : Str} : digB x = true ↔ NumText.AllDigits (TL.tl x) := by
  unfold digB NumText.AllDigits
  rw [List.all_eq_true]
  exact ⟨fun h c hc => of_decide_eq_true (h c hc), fun h c hc => decide_eq_true (h c hc)⟩
def numV (x : Str) : Option Int := if TL.tl x = [] ∨ 30 < (TL.tl x).length ∨ digB x = false then none else if (TL.tl x).head? = some 48 ∧ TL.tl x ≠ [48] then none else some ((NumText.digitsVal (TL.tl x) : Nat) : Int)
def optI : Option Int → PyData
  | none => .none
  | some n => .int n
theorem fig_iff {c : Nat} : c ∈ (Str.ofString "0123456789").cps.toList ↔ 48 ≤ c ∧ c ≤ 57 := by
  constructor
  · intro h
    have h : c ∈ TL.tl (Str.ofString "0123456789") := h
    rw [figures] at h
    simp at h
    omega
  · exact fun h => fig_mem h.1 h.2
theorem nil_iff {x : Str} : x = Str.ofString "" ↔ TL.tl x = [] := by
  constructor
  · rintro rfl; decide
  · intro h
    apply TL.ext_tl
    rw [h]; decide
theorem zero_iff {x : Str} : x = Str.ofString "0" ↔ TL.tl x = [48] := by
  constructor
  · rintro rfl; decide
  · intro h
    apply TL.ext_tl
    rw [h]; decide
theorem numV_pos {x : Str} {n : Int} (h : numV x = some n) : 0 ≤ n := by
  unfold numV at h
  split at h
  · cases h
  · split at h
    · cases h
    · cases h; omega
theorem word_looks {x : Str} (h30 : (TL.tl x).length ≤ 30) (hd : digB x = true) (h0 : TL.tl x ≠ []) : ∃ c, ixO (.str x) (.int 0) = some (.val (.str ⟨#[c]⟩)) ∧ ((⟨#[c]⟩ : Str) = Str.ofString "0" ↔ (TL.tl x).head? = some 48) ∧ intTO [.str x] = some (.val (.int ((NumText.digitsVal (TL.tl x) : Nat) : Int))) := by
  obtain ⟨c, r, hc⟩ := List.exists_cons_of_ne_nil h0
  have lx : x.length ≤ 30 := by rw [wI_len]; exact h30
  refine ⟨c, ?_, ?_, ?_⟩
  · show (if leS (x.length) then (atI x.cps.toList 0).map fun c => R.val (.str ⟨#[c]⟩) else none) = _
    rw [if_pos (size_le (by omega)), show x.cps.toList = c :: r from hc]
    simp
  · rw [hc, List.head?_cons]
    constructor
    · intro z
      have := congrArg TL.tl z
      rw [show TL.tl (Str.ofString "0") = [48] by decide] at this
      rw [(List.cons.inj this).1]
    · intro z
      cases z
      decide
  · have e := intText_digits (x := x) (digB_iff.mp hd) h0 (by omega)
    show (match PySem.intText? x with | some n => if x.length ≤ 640 then some (R.val (.int n)) else none | none => none) = _
    rw [e]
    exact if_pos (by omega)
theorem fig_iff' {c : Nat} : c ∈ (Str.ofString "0123456789").cps ↔ 48 ≤ c ∧ c ≤ 57 := by
  rw [← Array.mem_toList_iff]
  exact fig_iff
theorem word_kind (x : Str) : (TL.tl x = [] ∧ numV x = none) ∨ (TL.tl x ≠ [] ∧ 30 < (TL.tl x).length ∧ numV x = none) ∨ (TL.tl x ≠ [] ∧ (TL.tl x).length ≤ 30 ∧ digB x = false ∧ numV x = none) ∨
    (TL.tl x ≠ [] ∧ (TL.tl x).length ≤ 30 ∧ digB x = true ∧ (TL.tl x).head? = some 48 ∧ TL.tl x ≠ [48] ∧ numV x = none) ∨ (TL.tl x ≠ [] ∧ (TL.tl x).length ≤ 30 ∧ digB x = true ∧ ((TL.tl x).head? = some 48 → TL.tl x = [48]) ∧ numV x = some ((NumText.digitsVal (TL.tl x) : Nat) : Int)) := by
  unfold numV
  by_cases e0 : TL.tl x = []
  · exact .inl ⟨e0, if_pos (.inl e0)⟩
  · by_cases h : 30 < (TL.tl x).length
    · exact .inr (.inl ⟨e0, h, if_pos (.inr (.inl h))⟩)
    · cases d : digB x with
      | false => exact .inr (.inr (.inl ⟨e0, by omega, rfl, if_pos (.inr (.inr rfl))⟩))
      | true =>
        have n : ¬ (TL.tl x = [] ∨ 30 < (TL.tl x).length ∨ true = false) := by simp only [e0, h, Bool.true_eq_false, or_self, not_false_eq_true]
        rw [if_neg n]
        by_cases q : (TL.tl x).head? = some 48 ∧ TL.tl x ≠ [48]
        · exact .inr (.inr (.inr (.inl ⟨e0, by omega, rfl, q.1, q.2, if_pos q⟩)))
        · exact .inr (.inr (.inr (.inr ⟨e0, by omega, rfl, fun z => Classical.byContradiction fun k => q ⟨z, k⟩, if_neg q⟩)))
theorem numb_any {x : Str} {w : Pw} (hx : leS x.length) : F_number_of_v2 [.val (.str x)] w = .ok (.val (optI (numV x))) w := by
  have lo : lenO [.str x] = some (.val (.int (x.length : Int))) := if_pos hx
  have lx := wI_len x
  have e1 : (TL.tl x).length ≤ 30 → l_number_of_v2_1 ⟨[.val (.str x), .no], w⟩ = .ok (.new ((TL.tl x).map fun c => PyData.bool (decide (48 ≤ c ∧ c ≤ 57)))) ⟨[.val (.str x), .no], w⟩ := fun h => by
    refine lc_all (fun c : Nat => ⟨[.val (.str x), .val (.str ⟨#[c]⟩)], w⟩) _ (f := fun c : Nat => PyData.str ⟨#[c]⟩) (l := TL.tl x) (by
      have : sgnD x = (TL.tl x).map fun c : Nat => PyData.str ⟨#[c]⟩ := rfl
      simp -implicitDefEqProofs [this]) (by omega) rfl (fun a _ => by rfl) (fun a _ => by rfl) (fun c hc => ?_)
    unfold e_number_of_v2_1
    simp -implicitDefEqProofs [fig_iff', -Bool.decide_and]
  have ea : allO [.list ((TL.tl x).map fun c => PyData.bool (decide (48 ≤ c ∧ c ≤ 57)))] = some (.val (.bool (digB x))) := by
    rw [x_allO, boolsD_map']
    show some (R.val (.bool _)) = _
    congr 3
    rw [List.all_map]
    rfl
  obtain ⟨DB, hDB⟩ : ∃ DB, ((TL.tl x).map fun c => PyData.bool (decide (48 ≤ c ∧ c ≤ 57))) = DB := ⟨_, rfl⟩
  rw [hDB] at e1 ea
  rcases word_kind x with ⟨e0, hv⟩ | ⟨e0, h30, hv⟩ | ⟨e0, h30, hd, hv⟩ | ⟨e0, h30, hd, q, z, hv⟩ | ⟨e0, h30, hd, q, hv⟩ <;> rw [hv] <;> unfold F_number_of_v2 p_number_of_v2 <;> simp only [x_runF]
  · have : x = Str.ofString "" := nil_iff.mpr e0
    have ee : eqO (.str x) (.str (Str.ofString "")) = some (.val (.bool true)) := by rw [this]; rfl
    simp -implicitDefEqProofs [ee, optI]
  · have n0 : ¬ x = Str.ofString "" := fun z => e0 (nil_iff.mp z)
    have h30' : (30 : Int) < (x.length : Int) := by omega
    simp -implicitDefEqProofs [n0, lo, h30', optI]
  · have n0 : ¬ x = Str.ofString "" := fun z => e0 (nil_iff.mp z)
    have h30' : ¬ (30 : Int) < (x.length : Int) := by omega
    rw [hd] at ea
    simp -implicitDefEqProofs [n0, lo, h30', e1 h30, ea, optI, -x_allO]
  · have n0 : ¬ x = Str.ofString "" := fun z => e0 (nil_iff.mp z)
    have h30' : ¬ (30 : Int) < (x.length : Int) := by omega
    rw [hd] at ea
    obtain ⟨c, c1, c2, c3⟩ := word_looks h30 hd e0
    have q2 := c2.mpr q
    have nz : ¬ x = Str.ofString "0" := fun k => z (zero_iff.mp k)
    simp -implicitDefEqProofs [n0, lo, h30', e1 h30, ea, optI, -x_allO, c1, q2, nz, c3]
  · have n0 : ¬ x = Str.ofString "" := fun z => e0 (nil_iff.mp z)
    have h30' : ¬ (30 : Int) < (x.length : Int) := by omega
    rw [hd] at ea
    obtain ⟨c, c1, c2, c3⟩ := word_looks h30 hd e0
    by_cases z : (TL.tl x).head? = some 48
    · have q2 := c2.mpr z
      have nz : neO (.str x) (.str (Str.ofString "0")) = some (.val (.bool false)) := by rw [zero_iff.mpr (q z)]; rfl
      simp -implicitDefEqProofs [n0, lo, h30', e1 h30, ea, optI, -x_allO, c1, q2, nz, c3]
    · have q2 : ¬ (⟨#[c]⟩ : Str) = Str.ofString "0" := fun k => z (c2.mp k)
      simp -implicitDefEqProofs [n0, lo, h30', e1 h30, ea, optI, -x_allO, c1, q2, c3]
theorem figured_any {x : Str} {w : Pw} (hx : leS x.length) : F_law_figured_v2 [.val (.str x)] w = .ok (.val (optI (numV x))) w := by
  have lo : lenO [.str x] = some (.val (.int (x.length : Int))) := if_pos hx
  have lx := wI_len x
  have e1 : (TL.tl x).length ≤ 30 → l_law_figured_v2_2 ⟨[.val (.str x), .no], w⟩ = .ok (.new (((TL.tl x).filter fun c => !decide (48 ≤ c ∧ c ≤ 57)).map fun c => PyData.str ⟨#[c]⟩)) ⟨[.val (.str x), .no], w⟩ := fun h => by
    refine lc_gen (fun c : Nat => ⟨[.val (.str x), .val (.str ⟨#[c]⟩)], w⟩) _ _ (f := fun c : Nat => PyData.str ⟨#[c]⟩) (l := TL.tl x) (by
      have : sgnD x = (TL.tl x).map fun c : Nat => PyData.str ⟨#[c]⟩ := rfl
      simp -implicitDefEqProofs [this]) (by omega) rfl (fun a _ => by rfl) (fun a _ => by rfl) (fun c hc => ?_) (fun c hc _ => ?_)
    · unfold t_law_figured_v2_1
      simp -implicitDefEqProofs [fig_iff', -Bool.decide_and]
    · unfold e_law_figured_v2_2
      simp -implicitDefEqProofs
  have ea : neO (.list (((TL.tl x).filter fun c => !decide (48 ≤ c ∧ c ≤ 57)).map fun c => PyData.str ⟨#[c]⟩)) (.list []) = some (.val (.bool (!digB x))) := by
    cases hd : digB x with
    | true =>
      have : (TL.tl x).filter (fun c => !decide (48 ≤ c ∧ c ≤ 57)) = [] := List.filter_eq_nil_iff.mpr fun c hc => by
        have := digB_iff.mp hd c hc
        simp
        omega
      rw [this]
      rfl
    | false =>
      cases hf : (TL.tl x).filter (fun c => !decide (48 ≤ c ∧ c ≤ 57)) with
      | nil =>
        exfalso
        have : digB x = true := digB_iff.mpr fun c hc => by
          have := List.filter_eq_nil_iff.mp hf c hc
          simp at this
          omega
        rw [this] at hd; cases hd
      | cons a l => simp
  obtain ⟨DB, hDB⟩ : ∃ DB, (((TL.tl x).filter fun c => !decide (48 ≤ c ∧ c ≤ 57)).map fun c => PyData.str ⟨#[c]⟩) = DB := ⟨_, rfl⟩
  rw [hDB] at e1 ea
  rcases word_kind x with ⟨e0, hv⟩ | ⟨e0, h30, hv⟩ | ⟨e0, h30, hd, hv⟩ | ⟨e0, h30, hd, q, z, hv⟩ | ⟨e0, h30, hd, q, hv⟩ <;> rw [hv] <;> unfold F_law_figured_v2 p_law_figured_v2 <;> simp only [x_runF]
  · have : x = Str.ofString "" := nil_iff.mpr e0
    have ee : eqO (.str x) (.str (Str.ofString "")) = some (.val (.bool true)) := by rw [this]; rfl
    simp -implicitDefEqProofs [ee, optI]
  · have n0 : ¬ x = Str.ofString "" := fun z => e0 (nil_iff.mp z)
    have h30' : (30 : Int) < (x.length : Int) := by omega
    simp -implicitDefEqProofs [n0, lo, h30', optI]
  · have n0 : ¬ x = Str.ofString "" := fun z => e0 (nil_iff.mp z)
    have h30' : ¬ (30 : Int) < (x.length : Int) := by omega
    rw [hd] at ea
    simp -implicitDefEqProofs [n0, lo, h30', e1 h30, ea, optI]
  · have n0 : ¬ x = Str.ofString "" := fun z => e0 (nil_iff.mp z)
    have h30' : ¬ (30 : Int) < (x.length : Int) := by omega
    rw [hd] at ea
    obtain ⟨c, c1, c2, c3⟩ := word_looks h30 hd e0
    have q2 := c2.mpr q
    have nz : ¬ x = Str.ofString "0" := fun k => z (zero_iff.mp k)
    simp -implicitDefEqProofs [n0, lo, h30', e1 h30, ea, optI, c1, q2, nz, c3]
  · have n0 : ¬ x = Str.ofString "" := fun z => e0 (nil_iff.mp z)
    have h30' : ¬ (30 : Int) < (x.length : Int) := by omega
    rw [hd] at ea
    obtain ⟨c, c1, c2, c3⟩ := word_looks h30 hd e0
    by_cases z : (TL.tl x).head? = some 48
    · have q2 := c2.mpr z
      have nz : neO (.str x) (.str (Str.ofString "0")) = some (.val (.bool false)) := by rw [zero_iff.mpr (q z)]; rfl
      simp -implicitDefEqProofs [n0, lo, h30', e1 h30, ea, optI, c1, q2, nz, c3]
    · have q2 : ¬ (⟨#[c]⟩ : Str) = Str.ofString "0" := fun k => z (c2.mp k)
      simp -implicitDefEqProofs [n0, lo, h30', e1 h30, ea, optI, c1, q2, c3]

end DL

noncomputable section
namespace DL
open PySem L2
def e_law_ranked_v2_1 : M R := fUser F_law_figured_v2 (fCons (fVar 2) fNil)
abbrev l_law_ranked_v2_1 : M R := fLc (fLstI (fSplit (fVar 0) (fC (.str ">")))) (bName 2) fYes (e_law_ranked_v2_1) [2]
def p_law_ranked_v2 : DSt → Flow := fseq (fSet 1 (fLc (fLstI (fSplit (fVar 0) (fC (.str ">")))) (bName 2) fYes (e_law_ranked_v2_1) [2])) (fseq (fIfS (fOr (fB (fOp (lift2 inO) (fC .none) (fVar 1))) (fOr (fB (fOp (lift2 gtO) (fCall lenO (pCons (fVar 1) fNil)) (fC (.int 10)))) (fB (fOp (lift2 ltO) (fLenSet (fVar 1)) (fCall lenO (pCons (fVar 1) fNil)))))) (fRet (fC .none)) fnext) (fRet (fVar 1)))
def F_law_ranked_v2 : List R → Pw → FRes := runF 3 1 p_law_ranked_v2
/-! texts of any kind: a ranking -/
def allS : List (Option Int) → Option (List Int)
  | [] => some []
  | none :: _ => none
  | some a :: l => (allS l).map (a :: ·)
theorem allS_some : ∀ {vs : List (Option Int)} {ns : List Int}, allS vs = some ns → vs = ns.map some
  | [], _, h => by cases h; rfl
  | none :: _, _, h => by cases h
  | some a :: l, ns, h => by
    unfold allS at h
    cases q : allS l with
    | none => rw [q] at h; cases h
    | some ms => rw [q] at h; cases h; rw [allS_some q]; rfl
theorem allS_none : ∀ {vs : List (Option Int)}, allS vs = none → none ∈ vs
  | [], h => by cases h
  | none :: _, _ => by simp
  | some a :: l, h => by
    unfold allS at h
    cases q : allS l with
    | none => exact List.mem_cons_of_mem _ (allS_none q)
    | some ms => rw [q] at h; cases h
open Classical in
def rankV (x : Str) : Option (List Int) := match allS ((Txt.split x (Str.ofString ">")).map numV) with
  | some ns => if Rank ns then some ns else none
  | none => none
def rkR : Option (List Int) → R
  | none => .val .none
  | some ns => .new (ns.map .int)
theorem leS_le {a b : Nat} (h : a ≤ b) (k : leS b) : leS a := Nat.le_trans h k
theorem none_inO {vs : List (Option Int)} (h : none ∈ vs) : inO .none (.list (vs.map optI)) = some (.val (.bool true)) := by
  have d : PyData.depth .none ≤ 60 := by decide
  unfold inO
  show (if min (PyData.depthAll (vs.map optI)) (PyData.depth .none) ≤ 60 then some (R.val (.bool ((vs.map optI).any fun z => PyData.eqv z .none))) else none) = _
  rw [if_pos (by omega)]
  have : ((vs.map optI).any fun z => PyData.eqv z .none) = true := by
    rw [List.any_eq_true]
    exact ⟨.none, List.mem_map.mpr ⟨none, h, rfl⟩, by simp [PyData.eqv]⟩
  rw [this]
structure WordOk (x : Str) : Prop where
  l : leS (x.length + 2)
  p : (Txt.split x (Str.ofString ">")).length ≤ 1000
theorem sgt : ((Str.ofString ">").length == 0) = false := by decide
theorem parts_ne {x : Str} : Txt.split x (Str.ofString ">") ≠ [] := List.length_pos_iff.mp (by have := PyProof.Rows.split_pos x (Str.ofString ">"); omega)
theorem ranked_any {x : Str} {w : Pw} (h : WordOk x) : F_ranking_of_v3 [.val (.str x)] w = .ok (rkR (rankV x)) w := by
  have lp := h.p
  have e1 : l_ranking_of_v3_1 ⟨[.val (.str x), .no, .no], w⟩ = .ok (.new (((Txt.split x (Str.ofString ">")).map numV).map optI)) ⟨[.val (.str x), .no, .no], w⟩ := by
    rw [List.map_map]
    refine lc_all (fun p : Str => ⟨[.val (.str x), .no, .val (.str p)], w⟩) _ (f := fun p : Str => PyData.str p) (l := Txt.split x (Str.ofString ">")) (by simp -implicitDefEqProofs [h.l, sgt]) (by omega) rfl (fun a _ => by rfl) (fun a _ => by rfl) (fun p hp => ?_)
    have hs := PyProof.Rows.part_short hp
    have e := numb_any (w := w) (x := p) (leS_le (by omega) h.l)
    unfold e_ranking_of_v3_1
    simp -implicitDefEqProofs [e]
  unfold rankV
  obtain ⟨vs, hvs⟩ : ∃ vs, (Txt.split x (Str.ofString ">")).map numV = vs := ⟨_, rfl⟩
  have lv : vs.length ≤ 1000 := by rw [← hvs, List.length_map]; exact lp
  rw [hvs] at e1 ⊢
  cases q : allS vs with
  | none =>
    have en := none_inO (allS_none q)
    obtain ⟨D, hD⟩ : ∃ D, vs.map optI = D := ⟨_, rfl⟩
    rw [hD] at e1 en
    unfold F_ranking_of_v3 p_ranking_of_v3
    simp only [x_runF]
    simp -implicitDefEqProofs [e1, en, rkR]
  | some ns =>
    have ev := allS_some q
    have eD : vs.map optI = ns.map .int := by rw [ev, List.map_map]; rfl
    rw [eD] at e1
    have ln : ns.length ≤ 1000 := by rw [ev, List.length_map] at lv; exact lv
    have en := none_in (ns := ns)
    have ei := is_ranking_any (w := w) (d := .list (ns.map .int)) (by show (ns.map PyData.int).length ≤ 4000; rw [List.length_map]; omega)
    rw [rankB_ints] at ei
    obtain ⟨D, hD⟩ : ∃ D, ns.map PyData.int = D := ⟨_, rfl⟩
    rw [hD] at e1 en ei
    dsimp only
    by_cases hr : Rank ns
    · rw [decide_eq_true hr] at ei
      rw [if_pos hr]
      unfold F_ranking_of_v3 p_ranking_of_v3
      simp only [x_runF]
      simp -implicitDefEqProofs [e1, en, ei, rkR, hD]
    · rw [decide_eq_false hr] at ei
      rw [if_neg hr]
      unfold F_ranking_of_v3 p_ranking_of_v3
      simp only [x_runF]
      simp -implicitDefEqProofs [e1, en, ei, rkR]
theorem ranked_law {x : Str} {w : Pw} (h : WordOk x) : F_law_ranked_v2 [.val (.str x)] w = .ok (rkR (rankV x)) w := by
  have lp := h.p
  have e1 : l_law_ranked_v2_1 ⟨[.val (.str x), .no, .no], w⟩ = .ok (.new (((Txt.split x (Str.ofString ">")).map numV).map optI)) ⟨[.val (.str x), .no, .no], w⟩ := by
    rw [List.map_map]
    refine lc_all (fun p : Str => ⟨[.val (.str x), .no, .val (.str p)], w⟩) _ (f := fun p : Str => PyData.str p) (l := Txt.split x (Str.ofString ">")) (by simp -implicitDefEqProofs [h.l, sgt]) (by omega) rfl (fun a _ => by rfl) (fun a _ => by rfl) (fun p hp => ?_)
    have hs := PyProof.Rows.part_short hp
    have e := figured_any (w := w) (x := p) (leS_le (by omega) h.l)
    unfold e_law_ranked_v2_1
    simp -implicitDefEqProofs [e]
  unfold rankV
  obtain ⟨vs, hvs⟩ : ∃ vs, (Txt.split x (Str.ofString ">")).map numV = vs := ⟨_, rfl⟩
  have lv : vs.length ≤ 1000 := by rw [← hvs, List.length_map]; exact lp
  have v0 : vs ≠ [] := by rw [← hvs]; simpa using parts_ne
  have pos : ∀ n : Int, some n ∈ vs → 0 ≤ n := fun n hn => by
    rw [← hvs] at hn
    obtain ⟨p, _, e⟩ := List.mem_map.mp hn
    exact numV_pos e
  rw [hvs] at e1 ⊢
  cases q : allS vs with
  | none =>
    have en := none_inO (allS_none q)
    obtain ⟨D, hD⟩ : ∃ D, vs.map optI = D := ⟨_, rfl⟩
    rw [hD] at e1 en
    unfold F_law_ranked_v2 p_law_ranked_v2
    simp only [x_runF]
    simp -implicitDefEqProofs [e1, en, rkR]
  | some ns =>
    have ev := allS_some q
    have eD : vs.map optI = ns.map .int := by rw [ev, List.map_map]; rfl
    rw [eD] at e1
    have ln : ns.length ≤ 1000 := by rw [ev, List.length_map] at lv; exact lv
    have n0 : 0 < ns.length := by
      refine List.length_pos_iff.mpr fun z => v0 ?_
      rw [ev, z]; rfl
    have np : ∀ n ∈ ns, 0 ≤ n := fun n hn => pos n (by rw [ev]; exact List.mem_map_of_mem hn)
    have en := none_in (ns := ns)
    have hr : Rank ns ↔ ns.length ≤ 10 ∧ ns.Nodup := ⟨fun h => ⟨h.2.2.2, h.1⟩, fun h => ⟨h.2, np, n0, h.1⟩⟩
    have ei : intsD (ns.map .int) = some ns := intsD_map ns
    have ln' : ns.length ≤ 4000 := by omega
    have nl := nub_iff (ns := ns)
    have nle : (nubI ns).length ≤ ns.length := PyProof.Rows.firstMet_length_le _ _
    have lD : (ns.map PyData.int).length = ns.length := List.length_map _
    obtain ⟨D, hD⟩ : ∃ D, ns.map PyData.int = D := ⟨_, rfl⟩
    rw [hD] at e1 en ei lD
    dsimp only
    by_cases h10 : ns.length ≤ 10
    · have h10' : ¬ (10 : Int) < (ns.length : Int) := by omega
      by_cases hn : ns.Nodup
      · rw [if_pos (hr.mpr ⟨h10, hn⟩)]
        have hnn := nl.mpr hn
        have c : ¬ ((nubI ns).length : Int) < (ns.length : Int) := by omega
        unfold F_law_ranked_v2 p_law_ranked_v2
        simp only [x_runF]
        simp -implicitDefEqProofs [e1, en, ei, rkR, hD, lD, h10', ln', c]
      · rw [if_neg fun z => hn (hr.mp z).2]
        have c : ((nubI ns).length : Int) < (ns.length : Int) := by
          have : (nubI ns).length ≠ ns.length := fun z => hn (nl.mp z)
          omega
        unfold F_law_ranked_v2 p_law_ranked_v2
        simp only [x_runF]
        simp -implicitDefEqProofs [e1, en, ei, rkR, hD, lD, h10', ln', c]
    · rw [if_neg fun z => h10 (hr.mp z).1]
      have h10' : (10 : Int) < (ns.length : Int) := by omega
      unfold F_law_ranked_v2 p_law_ranked_v2
      simp only [x_runF]
      simp -implicitDefEqProofs [e1, en, ei, rkR, hD, lD, h10']

end DL

noncomputable section
namespace DL
open PySem L2
def b_read_folk_v6_1 : DSt → Flow := fseq (fSet 5 (fUser F_ranking_of_v3 (fCons (fVar 4) fNil))) (fseq (fIfS (fOr (fB (fIsN false (fVar 5))) (fOr (fB (fOp (lift2 geO) (fVar 3) (fC (.int 20)))) (fAnd (fB (fOp (lift2 neO) (fVar 2) (fLst fNil))) (fB (fOp (lift2 neO) (fCall sortedO (pCons (fVar 5) fNil)) (fCall sortedO (pCons (fOp (lift2 ixO) (fVar 2) (fC (.int 0))) fNil))))))) (fRaiseA "NoText" (fVar 3)) fnext) (fDrop (fApp 2 (fVar 5))))
abbrev o_read_folk_v6_1 : List PyData → DSt → Flow := loopF (bTup 2 (bCons (bName 3) (bCons (bName 4) bNil))) b_read_folk_v6_1
def p_read_folk_v6 : DSt → Flow := fseq (fSet 1 (fSplit (fVar 0) (fC (.str "\n")))) (fseq (fSet 2 (fLst fNil)) (fseq (fFor (fEnum (fCons (fSlice (fVar 1) fNoPart (fPart (fUn (lift1 negO) (fC (.int 1))))) fNil)) (bTup 2 (bCons (bName 3) (bCons (bName 4) bNil))) b_read_folk_v6_1) (fseq (fIfS (fOr (fB (fOp (lift2 neO) (fOp (lift2 ixO) (fVar 1) (fUn (lift1 negO) (fC (.int 1)))) (fC (.str "")))) (fB (fOp (lift2 eqO) (fVar 2) (fLst fNil)))) (fRaiseA "NoText" (fOp (lift2 subO) (fCall lenO (pCons (fVar 1) fNil)) (fC (.int 1)))) fnext) (fRet (fVar 2)))))
def F_read_folk_v6 : List R → Pw → FRes := runF 6 1 p_read_folk_v6
def b_law_folk_of_v2_1 : DSt → Flow := fseq (fSet 5 (fUser F_law_ranked_v2 (fCons (fVar 4) fNil))) (fseq (fIfS (fOr (fB (fIsN false (fVar 5))) (fOr (fB (fOp (lift2 gtO) (fVar 3) (fC (.int 19)))) (fAnd (fB (fOp (lift2 neO) (fVar 1) (fLst fNil))) (fB (fOp (lift2 neO) (fCall sortedO (pCons (fVar 5) fNil)) (fCall sortedO (pCons (fOp (lift2 ixO) (fVar 1) (fC (.int 0))) fNil))))))) (fRet (fLst (fCons (fVar 3) fNil))) fnext) (fDrop (fApp 1 (fVar 5))))
abbrev o_law_folk_of_v2_1 : List PyData → DSt → Flow := loopF (bTup 2 (bCons (bName 3) (bCons (bName 4) bNil))) b_law_folk_of_v2_1
def p_law_folk_of_v2 : DSt → Flow := fseq (fSet 1 (fLst fNil)) (fseq (fSet 2 (fSplit (fVar 0) (fC (.str "\n")))) (fseq (fFor (fEnum (fCons (fSlice (fVar 2) fNoPart (fPart (fUn (lift1 negO) (fC (.int 1))))) fNil)) (bTup 2 (bCons (bName 3) (bCons (bName 4) bNil))) b_law_folk_of_v2_1) (fseq (fIfS (fOr (fB (fOp (lift2 neO) (fOp (lift2 ixO) (fVar 2) (fUn (lift1 negO) (fC (.int 1)))) (fC (.str "")))) (fB (fOp (lift2 eqO) (fVar 1) (fLst fNil)))) (fRet (fLst (fCons (fOp (lift2 subO) (fCall lenO (pCons (fVar 2) fNil)) (fC (.int 1))) fNil))) fnext) (fRet (fTup (fCons (fVar 1) fNil))))))
def F_law_folk_of_v2 : List R → Pw → FRes := runF 6 1 p_law_folk_of_v2
def p_read_ranking_v9 : DSt → Flow := fseq (fSet 1 (fUser F_ranking_of_v3 (fCons (fVar 0) fNil))) (fseq (fIfS (fB (fIsN false (fVar 1))) (fRaiseA "NoText" (fC (.int 0))) fnext) (fRet (fVar 1)))
def F_read_ranking_v9 : List R → Pw → FRes := runF 2 1 p_read_ranking_v9
/-! texts of any kind: a folk -/
open Classical in
def foldK : List Str → Nat → List (List Int) → Sum (List (List Int)) Nat
  | [], _, f => .inl f
  | x :: rows, k, f => match rankV x with
    | none => .inr k
    | some r => if 20 ≤ k ∨ (f ≠ [] ∧ sortI r ≠ sortI (f.headD [])) then .inr k else foldK rows (k + 1) (f ++ [r])
open Classical in
def folkV (x : Str) : Sum (List (List Int)) Nat := match foldK (Txt.split x (Str.ofString "\n")).dropLast 0 [] with
  | .inr k => .inr k
  | .inl f => if (Txt.split x (Str.ofString "\n")).getLastD (Str.ofString "") ≠ Str.ofString "" ∨ f = [] then .inr ((Txt.split x (Str.ofString "\n")).length - 1) else .inl f
def enF (p : Str × Nat) : PyData := .tuple [.int (p.2 : Int), .str p.1]
theorem loop_cons {b : Bd} {p : DSt → Flow} {d : PyData} {ds : List PyData} {s s1 : DSt} (h : b d s = some s1) : loopF b p (d :: ds) s = match p s1 with
      | .next s2 => loopF b p ds s2
      | .cnt s2 => loopF b p ds s2
      | .brk s2 => .next s2
      | .ret r s2 => .ret r s2
      | .err x s2 => .err x s2
      | .stuck => .stuck := by
  show (match b d s with | none => Flow.stuck | some s1 => _) = _
  rw [h]
  try rfl
theorem row_looks {r : List Int} {f : List (List Int)} {k : Nat} (hk : f.length = k) (lk : k ≤ 20) : (f.map llD = [] ↔ f = []) ∧ (f ≠ [] → ixO (.list (f.map llD)) (.int 0) = some (.val (.list ((f.headD []).map .int)))) ∧ ltS (f.map llD).length := by
  refine ⟨List.map_eq_nil_iff, fun h => ?_, size_lt (by rw [List.length_map]; omega)⟩
  cases f with
  | nil => exact absurd rfl h
  | cons a f => simp [ixO, llD]
theorem read_loop {x : Str} {RW : List PyData} {w : Pw} : ∀ (rows : List Str) (k : Nat) (f : List (List Int)) (v3 v4 v5 : Sl), (∀ y ∈ rows, WordOk y) → f.length = k → k ≤ 20 →
    (∀ g, foldK rows k f = .inl g → ∃ u3 u4 u5, loopF (bTup 2 (bCons (bName 3) (bCons (bName 4) bNil))) b_read_folk_v6_1 ((rows.zipIdx k).map enF) ⟨[.val (.str x), .own RW, .own (f.map llD), v3, v4, v5], w⟩ = .next ⟨[.val (.str x), .own RW, .own (g.map llD), u3, u4, u5], w⟩) ∧
    (∀ j, foldK rows k f = .inr j → ∃ s', s'.w = w ∧ loopF (bTup 2 (bCons (bName 3) (bCons (bName 4) bNil))) b_read_folk_v6_1 ((rows.zipIdx k).map enF) ⟨[.val (.str x), .own RW, .own (f.map llD), v3, v4, v5], w⟩ = .err ⟨"NoText", some (.int (j : Int))⟩ s')
  | [], k, f, v3, v4, v5, _, _, _ => ⟨fun g h => by cases h; exact ⟨v3, v4, v5, rfl⟩, fun j h => by cases h⟩
  | y :: rows, k, f, v3, v4, v5, hw, hk, lk => by
    have e := ranked_any (w := w) (hw y (by simp))
    obtain ⟨z1, z2, z3⟩ := row_looks (r := []) hk lk
    obtain ⟨FD, hFD⟩ : ∃ FD, f.map llD = FD := ⟨_, rfl⟩
    have st : bTup 2 (bCons (bName 3) (bCons (bName 4) bNil)) (enF (y, k)) ⟨[.val (.str x), .own RW, .own (f.map llD), v3, v4, v5], w⟩ = some ⟨[.val (.str x), .own RW, .own (f.map llD), .val (.int ((k : Nat) : Int)), .val (.str y), v5], w⟩ := rfl
    rw [List.zipIdx_cons, List.map_cons, loop_cons st]
    unfold foldK
    cases q : rankV y with
    | none =>
      rw [q] at e
      have hb : ∃ s', s'.w = w ∧ b_read_folk_v6_1 ⟨[.val (.str x), .own RW, .own (f.map llD), .val (.int ((k : Nat) : Int)), .val (.str y), v5], w⟩ = .err ⟨"NoText", some (.int (k : Int))⟩ s' := by
        refine ⟨⟨[.val (.str x), .own RW, .own (f.map llD), .val (.int ((k : Nat) : Int)), .val (.str y), .val .none], w⟩, rfl, ?_⟩
        unfold b_read_folk_v6_1
        simp -implicitDefEqProofs [e, rkR]
      obtain ⟨s', hs, hb⟩ := hb
      rw [hb]
      refine ⟨fun g h => (by cases h), fun j h => ?_⟩
      cases h
      exact ⟨s', hs, rfl⟩
    | some r =>
      rw [q] at e
      dsimp only
      have so := sort_llD (r := r)
      by_cases c : 20 ≤ k ∨ (f ≠ [] ∧ sortI r ≠ sortI (f.headD []))
      · rw [if_pos c]
        have hb : ∃ s', s'.w = w ∧ b_read_folk_v6_1 ⟨[.val (.str x), .own RW, .own (f.map llD), .val (.int ((k : Nat) : Int)), .val (.str y), v5], w⟩ = .err ⟨"NoText", some (.int (k : Int))⟩ s' := by
          refine ⟨⟨[.val (.str x), .own RW, .own (f.map llD), .val (.int ((k : Nat) : Int)), .val (.str y), .own (r.map .int)], w⟩, rfl, ?_⟩
          by_cases c1 : 20 ≤ k
          · have c2 : (20 : Int) ≤ (k : Int) := by omega
            unfold b_read_folk_v6_1
            simp -implicitDefEqProofs [e, rkR, c1, c2]
          · have c3 := c.resolve_left c1
            have c2 : ¬ (20 : Int) ≤ (k : Int) := by omega
            have i0 := z2 c3.1
            have ne : ¬ f.map llD = [] := fun z => c3.1 (z1.mp z)
            have so2 := sort_llD (r := f.headD [])
            have nn : neO (.list ((sortI r).map .int)) (.list ((sortI (f.headD [])).map .int)) = some (.val (.bool true)) := by simp [-List.headD_eq_head?_getD, c3.2]
            obtain ⟨A, hA⟩ : ∃ A, (sortI r).map PyData.int = A := ⟨_, rfl⟩
            obtain ⟨B, hB⟩ : ∃ B, (sortI (f.headD [])).map PyData.int = B := ⟨_, rfl⟩
            obtain ⟨C, hC⟩ : ∃ C, (f.headD []).map PyData.int = C := ⟨_, rfl⟩
            rw [hA] at so nn
            rw [hB] at so2 nn
            rw [hC] at so2 i0
            rw [hFD] at i0 ne ⊢
            unfold b_read_folk_v6_1
            simp -implicitDefEqProofs [e, rkR, c1, c2, so, so2, i0, ne, nn, -x_sortedO, -x_ixL]
        obtain ⟨s', hs, hb⟩ := hb
        rw [hb]
        refine ⟨fun g h => (by cases h), fun j h => ?_⟩
        cases h
        exact ⟨s', hs, rfl⟩
      · rw [if_neg c]
        have c1 : ¬ 20 ≤ k := fun z => c (.inl z)
        have c2 : ¬ (20 : Int) ≤ (k : Int) := by omega
        have ih := read_loop (x := x) (RW := RW) (w := w) rows (k + 1) (f ++ [r]) (.val (.int ((k : Nat) : Int))) (.val (.str y)) (.val (llD r)) (fun z hz => hw z (by simp [hz])) (by simp [hk]) (by omega)
        have hb : b_read_folk_v6_1 ⟨[.val (.str x), .own RW, .own (f.map llD), .val (.int ((k : Nat) : Int)), .val (.str y), v5], w⟩ = .next ⟨[.val (.str x), .own RW, .own ((f ++ [r]).map llD), .val (.int ((k : Nat) : Int)), .val (.str y), .val (llD r)], w⟩ := by
          rw [List.map_append]
          by_cases c3 : f = []
          · have ee : FD = [] := by rw [← hFD, c3]; rfl
            rw [hFD] at z3 ⊢
            rw [ee] at z3 ⊢
            unfold b_read_folk_v6_1
            simp -implicitDefEqProofs [e, rkR, c1, c2, z3, llD]
          · have c4 : sortI r = sortI (f.headD []) := Classical.byContradiction fun z => c (.inr ⟨c3, z⟩)
            have i0 := z2 c3
            have ne : ¬ f.map llD = [] := fun z => c3 (z1.mp z)
            have so2 := sort_llD (r := f.headD [])
            rw [← c4] at so2
            obtain ⟨A, hA⟩ : ∃ A, (sortI r).map PyData.int = A := ⟨_, rfl⟩
            have nn : neO (.list A) (.list A) = some (.val (.bool false)) := by rw [← hA]; simp
            obtain ⟨C, hC⟩ : ∃ C, (f.headD []).map PyData.int = C := ⟨_, rfl⟩
            rw [hA] at so so2
            rw [hC] at so2 i0
            rw [hFD] at i0 ne z3 ⊢
            unfold b_read_folk_v6_1
            simp -implicitDefEqProofs [e, rkR, c1, c2, so, so2, i0, ne, nn, z3, llD, -x_sortedO, -x_ixL]
        rw [hb]
        dsimp only
        exact ih

end DL

noncomputable section
namespace DL
open PySem L2

/-! texts of any kind: a folk, read -/
structure TextOk (x : Str) : Prop where
  l : leS (x.length + 2)
  p : (Txt.split x (Str.ofString "\n")).length ≤ 1000
  r : ∀ y ∈ Txt.split x (Str.ofString "\n"), WordOk y
theorem sln : ((Str.ofString "\n").length == 0) = false := by decide
theorem law_loop {x : Str} {RW : List PyData} {w : Pw} : ∀ (rows : List Str) (k : Nat) (f : List (List Int)) (v3 v4 v5 : Sl), (∀ y ∈ rows, WordOk y) → f.length = k → k ≤ 20 →
    (∀ g, foldK rows k f = .inl g → ∃ u3 u4 u5, loopF (bTup 2 (bCons (bName 3) (bCons (bName 4) bNil))) b_law_folk_of_v2_1 ((rows.zipIdx k).map enF) ⟨[.val (.str x), .own (f.map llD), .own RW, v3, v4, v5], w⟩ = .next ⟨[.val (.str x), .own (g.map llD), .own RW, u3, u4, u5], w⟩) ∧
    (∀ j, foldK rows k f = .inr j → ∃ s', s'.w = w ∧ loopF (bTup 2 (bCons (bName 3) (bCons (bName 4) bNil))) b_law_folk_of_v2_1 ((rows.zipIdx k).map enF) ⟨[.val (.str x), .own (f.map llD), .own RW, v3, v4, v5], w⟩ = .ret (.new [.int (j : Int)]) s')
  | [], k, f, v3, v4, v5, _, _, _ => ⟨fun g h => by cases h; exact ⟨v3, v4, v5, rfl⟩, fun j h => by cases h⟩
  | y :: rows, k, f, v3, v4, v5, hw, hk, lk => by
    have e := ranked_law (w := w) (hw y (by simp))
    obtain ⟨z1, z2, z3⟩ := row_looks (r := []) hk lk
    obtain ⟨FD, hFD⟩ : ∃ FD, f.map llD = FD := ⟨_, rfl⟩
    have st : bTup 2 (bCons (bName 3) (bCons (bName 4) bNil)) (enF (y, k)) ⟨[.val (.str x), .own (f.map llD), .own RW, v3, v4, v5], w⟩ = some ⟨[.val (.str x), .own (f.map llD), .own RW, .val (.int ((k : Nat) : Int)), .val (.str y), v5], w⟩ := rfl
    rw [List.zipIdx_cons, List.map_cons, loop_cons st]
    unfold foldK
    cases q : rankV y with
    | none =>
      rw [q] at e
      have hb : ∃ s', s'.w = w ∧ b_law_folk_of_v2_1 ⟨[.val (.str x), .own (f.map llD), .own RW, .val (.int ((k : Nat) : Int)), .val (.str y), v5], w⟩ = .ret (.new [.int (k : Int)]) s' := by
        refine ⟨⟨[.val (.str x), .own (f.map llD), .own RW, .val (.int ((k : Nat) : Int)), .val (.str y), .val .none], w⟩, rfl, ?_⟩
        unfold b_law_folk_of_v2_1
        simp -implicitDefEqProofs [e, rkR]
      obtain ⟨s', hs, hb⟩ := hb
      rw [hb]
      refine ⟨fun g h => (by cases h), fun j h => ?_⟩
      cases h
      exact ⟨s', hs, rfl⟩
    | some r =>
      rw [q] at e
      dsimp only
      have so := sort_llD (r := r)
      by_cases c : 20 ≤ k ∨ (f ≠ [] ∧ sortI r ≠ sortI (f.headD []))
      · rw [if_pos c]
        have hb : ∃ s', s'.w = w ∧ b_law_folk_of_v2_1 ⟨[.val (.str x), .own (f.map llD), .own RW, .val (.int ((k : Nat) : Int)), .val (.str y), v5], w⟩ = .ret (.new [.int (k : Int)]) s' := by
          refine ⟨⟨[.val (.str x), .own (f.map llD), .own RW, .val (.int ((k : Nat) : Int)), .val (.str y), .own (r.map .int)], w⟩, rfl, ?_⟩
          by_cases c1 : 20 ≤ k
          · have c2 : (19 : Int) < (k : Int) := by omega
            unfold b_law_folk_of_v2_1
            simp -implicitDefEqProofs [e, rkR, c1, c2]
          · have c3 := c.resolve_left c1
            have c2 : ¬ (19 : Int) < (k : Int) := by omega
            have i0 := z2 c3.1
            have ne : ¬ f.map llD = [] := fun z => c3.1 (z1.mp z)
            have so2 := sort_llD (r := f.headD [])
            have nn : neO (.list ((sortI r).map .int)) (.list ((sortI (f.headD [])).map .int)) = some (.val (.bool true)) := by simp [-List.headD_eq_head?_getD, c3.2]
            obtain ⟨A, hA⟩ : ∃ A, (sortI r).map PyData.int = A := ⟨_, rfl⟩
            obtain ⟨B, hB⟩ : ∃ B, (sortI (f.headD [])).map PyData.int = B := ⟨_, rfl⟩
            obtain ⟨C, hC⟩ : ∃ C, (f.headD []).map PyData.int = C := ⟨_, rfl⟩
            rw [hA] at so nn
            rw [hB] at so2 nn
            rw [hC] at so2 i0
            rw [hFD] at i0 ne ⊢
            unfold b_law_folk_of_v2_1
            simp -implicitDefEqProofs [e, rkR, c1, c2, so, so2, i0, ne, nn, -x_sortedO, -x_ixL]
        obtain ⟨s', hs, hb⟩ := hb
        rw [hb]
        refine ⟨fun g h => (by cases h), fun j h => ?_⟩
        cases h
        exact ⟨s', hs, rfl⟩
      · rw [if_neg c]
        have c1 : ¬ 20 ≤ k := fun z => c (.inl z)
        have c2 : ¬ (19 : Int) < (k : Int) := by omega
        have ih := law_loop (x := x) (RW := RW) (w := w) rows (k + 1) (f ++ [r]) (.val (.int ((k : Nat) : Int))) (.val (.str y)) (.val (llD r)) (fun z hz => hw z (by simp [hz])) (by simp [hk]) (by omega)
        have hb : b_law_folk_of_v2_1 ⟨[.val (.str x), .own (f.map llD), .own RW, .val (.int ((k : Nat) : Int)), .val (.str y), v5], w⟩ = .next ⟨[.val (.str x), .own ((f ++ [r]).map llD), .own RW, .val (.int ((k : Nat) : Int)), .val (.str y), .val (llD r)], w⟩ := by
          rw [List.map_append]
          by_cases c3 : f = []
          · have ee : FD = [] := by rw [← hFD, c3]; rfl
            rw [hFD] at z3 ⊢
            rw [ee] at z3 ⊢
            unfold b_law_folk_of_v2_1
            simp -implicitDefEqProofs [e, rkR, c1, c2, z3, llD]
          · have c4 : sortI r = sortI (f.headD []) := Classical.byContradiction fun z => c (.inr ⟨c3, z⟩)
            have i0 := z2 c3
            have ne : ¬ f.map llD = [] := fun z => c3 (z1.mp z)
            have so2 := sort_llD (r := f.headD [])
            rw [← c4] at so2
            obtain ⟨A, hA⟩ : ∃ A, (sortI r).map PyData.int = A := ⟨_, rfl⟩
            have nn : neO (.list A) (.list A) = some (.val (.bool false)) := by rw [← hA]; simp
            obtain ⟨C, hC⟩ : ∃ C, (f.headD []).map PyData.int = C := ⟨_, rfl⟩
            rw [hA] at so so2
            rw [hC] at so2 i0
            rw [hFD] at i0 ne z3 ⊢
            unfold b_law_folk_of_v2_1
            simp -implicitDefEqProofs [e, rkR, c1, c2, so, so2, i0, ne, nn, z3, llD, -x_sortedO, -x_ixL]
        rw [hb]
        dsimp only
        exact ih

theorem enum_str {l : List Str} : enumD (l.map .str) = (l.zipIdx 0).map enF := by
  unfold enumD
  rw [List.zipIdx_map, List.map_map]
  rfl
theorem cut_str {I : List Str} {z : Str} : cutD ((I ++ [z]).map .str) none (some (-1)) = I.map .str := by
  unfold cutD
  have : HT.sIx ((I ++ [z]).map PyData.str).length ((I ++ [z]).map PyData.str).length (some (-1)) = I.length := by
    show (if (-1 : Int) < 0 then ((-1 : Int) + (((I ++ [z]).map PyData.str).length : Int)).toNat else min (-1 : Int).toNat ((I ++ [z]).map PyData.str).length) = _
    rw [if_pos (by omega), List.length_map, List.length_append, List.length_singleton]
    omega
  rw [this]
  show List.take (I.length - 0) (List.drop 0 _) = _
  simp
theorem atI_m1z {α : Type} {xs : List α} {z : α} : atI (xs ++ [z]) (-1) = some z := by
  unfold atI
  have e : ixN (xs ++ [z]).length (-1) = some xs.length := by
    unfold ixN
    simp
    try omega
  rw [e]
  simp
theorem ix_str {I : List Str} {z : Str} : ixO (.list ((I ++ [z]).map .str)) (.int (-1)) = some (.val (.str z)) := by
  simp [ixO, atI_m1z]
theorem rows_last (x : Str) : ∃ I z, Txt.split x (Str.ofString "\n") = I ++ [z] := by
  have h := PyProof.Rows.split_pos x (Str.ofString "\n")
  have : Txt.split x (Str.ofString "\n") ≠ [] := List.length_pos_iff.mp (by omega)
  exact ⟨_, _, (List.dropLast_concat_getLast this).symm⟩
open Classical in
theorem folkV_eq {x z : Str} {I : List Str} (e : Txt.split x (Str.ofString "\n") = I ++ [z]) : folkV x = match foldK I 0 [] with
    | .inr k => .inr k
    | .inl f => if z ≠ Str.ofString "" ∨ f = [] then .inr I.length else .inl f := by
  have e2 : (I ++ [z]).dropLast = I := by simp
  have e3 : (I ++ [z]).getLastD (Str.ofString "") = z := by simp
  have e4 : (I ++ [z]).length - 1 = I.length := by simp
  unfold folkV
  rw [e, e2, e3, e4]
  try (cases foldK I 0 [] <;> rfl)
theorem read_folk_any {x : Str} {w : Pw} (h : TextOk x) : (∀ f, folkV x = .inl f → F_read_folk_v6 [.val (.str x)] w = .ok (.new (f.map llD)) w) ∧ (∀ k, folkV x = .inr k → F_read_folk_v6 [.val (.str x)] w = .err ⟨"NoText", some (.int (k : Int))⟩ w) := by
  have l1 := h.l
  have lp := h.p
  obtain ⟨I, z, e⟩ := rows_last x
  have hw : ∀ y ∈ I, WordOk y := fun y hy => h.r y (by rw [e]; simp [hy])
  have lI : I.length + 1 ≤ 1000 := by rw [e] at lp; simpa using lp
  have rl := read_loop (x := x) (RW := (Txt.split x (Str.ofString "\n")).map .str) (w := w) I 0 [] .no .no .no hw rfl (by omega)
  have ix : ixO (.list ((Txt.split x (Str.ofString "\n")).map .str)) (.int (-1)) = some (.val (.str z)) := by rw [e]; exact ix_str
  have lD : ((Txt.split x (Str.ofString "\n")).map PyData.str).length = I.length + 1 := by rw [e]; simp
  have lt : ltS (I.length + 1) := size_lt (by omega)
  have cu : cutD ((Txt.split x (Str.ofString "\n")).map .str) none (some (-1)) = I.map .str := by rw [e]; exact cut_str
  have en := enum_str (l := I)
  rw [folkV_eq e]
  obtain ⟨D, hD⟩ : ∃ D, (Txt.split x (Str.ofString "\n")).map PyData.str = D := ⟨_, rfl⟩
  rw [hD] at rl ix lD cu
  rw [List.map_nil] at rl
  have lo : lenO [.list D] = some (.val (.int ((I.length + 1 : Nat) : Int))) := by show some (R.val (.int (D.length : Int))) = _; rw [lD]
  have su : subO (.int ((I.length + 1 : Nat) : Int)) (.int 1) = some (.val (.int (I.length : Int))) := by
    show some (R.val (.int (((I.length + 1 : Nat) : Int) - 1))) = _
    rw [show (((I.length + 1 : Nat) : Int) - 1) = (I.length : Int) by omega]
  cases q : foldK I 0 [] with
  | inr j =>
    refine ⟨fun f h => (by cases h), fun k h => ?_⟩
    cases h
    obtain ⟨s', hs, o⟩ := rl.2 _ q
    unfold F_read_folk_v6 p_read_folk_v6
    simp only [x_runF]
    simp -implicitDefEqProofs [l1, sln, hD, cu, en, o, hs]
  | inl g =>
    obtain ⟨u3, u4, u5, o⟩ := rl.1 _ q
    dsimp only
    by_cases hz : z = Str.ofString ""
    · have nz : neO (.str z) (.str (Str.ofString "")) = some (.val (.bool false)) := by rw [hz]; rfl
      by_cases hg : g = []
      · rw [if_pos (.inr hg)]
        refine ⟨fun f h => (by cases h), fun k h => ?_⟩
        cases h
        subst hg
        unfold F_read_folk_v6 p_read_folk_v6
        simp only [x_runF]
        simp -implicitDefEqProofs [l1, sln, hD, cu, en, o, ix, nz, lo, su]
      · rw [if_neg fun k => k.elim (fun k => k hz) hg]
        refine ⟨fun f h => ?_, fun k h => (by cases h)⟩
        cases h
        have ne : ¬ g.map llD = [] := fun k => hg (List.map_eq_nil_iff.mp k)
        obtain ⟨GD, hGD⟩ : ∃ GD, g.map llD = GD := ⟨_, rfl⟩
        rw [hGD] at o ne ⊢
        unfold F_read_folk_v6 p_read_folk_v6
        simp only [x_runF]
        simp -implicitDefEqProofs [l1, sln, hD, cu, en, o, ix, nz, ne]
    · rw [if_pos (.inl hz)]
      refine ⟨fun f h => (by cases h), fun k h => ?_⟩
      cases h
      unfold F_read_folk_v6 p_read_folk_v6
      simp only [x_runF]
      simp -implicitDefEqProofs [l1, sln, hD, cu, en, o, ix, hz, lo, su]
theorem law_folk_any {x : Str} {w : Pw} (h : TextOk x) : (∀ f, folkV x = .inl f → F_law_folk_of_v2 [.val (.str x)] w = .ok (.val (.tuple [.list (f.map llD)])) w) ∧ (∀ k, folkV x = .inr k → F_law_folk_of_v2 [.val (.str x)] w = .ok (.new [.int (k : Int)]) w) := by
  have l1 := h.l
  have lp := h.p
  obtain ⟨I, z, e⟩ := rows_last x
  have hw : ∀ y ∈ I, WordOk y := fun y hy => h.r y (by rw [e]; simp [hy])
  have lI : I.length + 1 ≤ 1000 := by rw [e] at lp; simpa using lp
  have rl := law_loop (x := x) (RW := (Txt.split x (Str.ofString "\n")).map .str) (w := w) I 0 [] .no .no .no hw rfl (by omega)
  have ix : ixO (.list ((Txt.split x (Str.ofString "\n")).map .str)) (.int (-1)) = some (.val (.str z)) := by rw [e]; exact ix_str
  have lD : ((Txt.split x (Str.ofString "\n")).map PyData.str).length = I.length + 1 := by rw [e]; simp
  have lt : ltS (I.length + 1) := size_lt (by omega)
  have cu : cutD ((Txt.split x (Str.ofString "\n")).map .str) none (some (-1)) = I.map .str := by rw [e]; exact cut_str
  have en := enum_str (l := I)
  rw [folkV_eq e]
  obtain ⟨D, hD⟩ : ∃ D, (Txt.split x (Str.ofString "\n")).map PyData.str = D := ⟨_, rfl⟩
  rw [hD] at rl ix lD cu
  rw [List.map_nil] at rl
  have lo : lenO [.list D] = some (.val (.int ((I.length + 1 : Nat) : Int))) := by show some (R.val (.int (D.length : Int))) = _; rw [lD]
  have su : subO (.int ((I.length + 1 : Nat) : Int)) (.int 1) = some (.val (.int (I.length : Int))) := by
    show some (R.val (.int (((I.length + 1 : Nat) : Int) - 1))) = _
    rw [show (((I.length + 1 : Nat) : Int) - 1) = (I.length : Int) by omega]
  cases q : foldK I 0 [] with
  | inr j =>
    refine ⟨fun f h => (by cases h), fun k h => ?_⟩
    cases h
    obtain ⟨s', hs, o⟩ := rl.2 _ q
    unfold F_law_folk_of_v2 p_law_folk_of_v2
    simp only [x_runF]
    simp -implicitDefEqProofs [l1, sln, hD, cu, en, o, hs]
  | inl g =>
    obtain ⟨u3, u4, u5, o⟩ := rl.1 _ q
    dsimp only
    by_cases hz : z = Str.ofString ""
    · have nz : neO (.str z) (.str (Str.ofString "")) = some (.val (.bool false)) := by rw [hz]; rfl
      by_cases hg : g = []
      · rw [if_pos (.inr hg)]
        refine ⟨fun f h => (by cases h), fun k h => ?_⟩
        cases h
        subst hg
        unfold F_law_folk_of_v2 p_law_folk_of_v2
        simp only [x_runF]
        simp -implicitDefEqProofs [l1, sln, hD, cu, en, o, ix, nz, lo, su]
      · rw [if_neg fun k => k.elim (fun k => k hz) hg]
        refine ⟨fun f h => ?_, fun k h => (by cases h)⟩
        cases h
        have ne : ¬ g.map llD = [] := fun k => hg (List.map_eq_nil_iff.mp k)
        obtain ⟨GD, hGD⟩ : ∃ GD, g.map llD = GD := ⟨_, rfl⟩
        rw [hGD] at o ne ⊢
        unfold F_law_folk_of_v2 p_law_folk_of_v2
        simp only [x_runF]
        simp -implicitDefEqProofs [l1, sln, hD, cu, en, o, ix, nz, ne]
    · rw [if_pos (.inl hz)]
      refine ⟨fun f h => (by cases h), fun k h => ?_⟩
      cases h
      unfold F_law_folk_of_v2 p_law_folk_of_v2
      simp only [x_runF]
      simp -implicitDefEqProofs [l1, sln, hD, cu, en, o, ix, hz, lo, su]

end DL

noncomputable section
namespace DL
open PySem L2
def t_law_marks_v11_1 : M Bool := fB (fVar 5)
def e_law_marks_v11_2 : M R := fVar 4
abbrev l_law_marks_v11_2 : M R := fLc (fZip (fCons (fVar 2) (fCons (fVar 1) fNil))) (bTup 2 (bCons (bName 4) (bCons (bName 5) bNil))) (t_law_marks_v11_1) (e_law_marks_v11_2) [4, 5]
def p_law_marks_v11 : DSt → Flow := fseq (fSet 1 (fLst (fCons (fIsYA ["NoText"] "NoRanking" (fVar 0)) (fCons (fIsYA ["NoText"] "NoFolk" (fVar 0)) (fCons (fIsYA ["NoText"] "NoNames" (fVar 0)) fNil))))) (fseq (fSet 1 (fOp (lift2 addO) (fVar 1) (fLst (fCons (fIsYA ["NoText"] "NoFit" (fVar 0)) (fCons (fIsYA ["NoText"] "NoLine" (fVar 0)) (fCons (fIsYA ["NoText"] "NoNumber" (fVar 0)) fNil)))))) (fseq (fSet 1 (fOp (lift2 addO) (fVar 1) (fLst (fCons (fIsYA ["NoText"] "NoTree" (fVar 0)) (fCons (fIsYA ["NoText"] "NoPaper" (fVar 0)) (fCons (fIsXA ["NoText"] "NoText" (fVar 0)) fNil)))))) (fseq (fSet 1 (fOp (lift2 addO) (fVar 1) (fLst (fCons (fIsYA ["NoText"] "NoTitle" (fVar 0)) (fCons (fIsYA ["NoText"] "NoRow" (fVar 0)) (fCons (fIsYA ["NoText"] "NoBack" (fVar 0)) fNil)))))) (fseq (fSet 1 (fOp (lift2 addO) (fVar 1) (fLst (fCons (fIsYA ["NoText"] "TooGreat" (fVar 0)) (fCons (fIsYA ["NoText"] "NoWeights" (fVar 0)) (fCons (fIsYA ["NoText"] "NoFall" (fVar 0)) fNil)))))) (fseq (fSet 1 (fOp (lift2 addO) (fVar 1) (fLst (fCons (fIsYA ["NoText"] "NoTops" (fVar 0)) (fCons (fIsYA ["NoText"] "NoFixed" (fVar 0)) (fCons (fIsYA ["NoText"] "NoHand" (fVar 0)) fNil)))))) (fseq (fSet 1 (fOp (lift2 addO) (fVar 1) (fLst (fCons (fIsYA ["NoText"] "NoRule" (fVar 0)) fNil)))) (fseq (fSet 2 (fSplit (fC (.str "NoRanking NoFolk NoNames NoFit NoLine NoNumber NoTree NoPaper")) (fC (.str " ")))) (fseq (fSet 2 (fOp (lift2 addO) (fVar 2) (fSplit (fC (.str "NoText NoTitle NoRow NoBack TooGreat NoWeights NoFall NoTops")) (fC (.str " "))))) (fseq (fSet 2 (fOp (lift2 addO) (fVar 2) (fSplit (fC (.str "NoFixed NoHand NoRule")) (fC (.str " "))))) (fseq (fSet 3 (fLc (fZip (fCons (fVar 2) (fCons (fVar 1) fNil))) (bTup 2 (bCons (bName 4) (bCons (bName 5) bNil))) (t_law_marks_v11_1) (e_law_marks_v11_2) [4, 5])) (fseq (fIfS (fNot (fB (fIsVA ["NoText"] (fVar 0)))) (fDrop (fApp 3 (fC (.str "none")))) fnext) (fRet (fVar 3)))))))))))))
def F_law_marks_v11 : List R → Pw → FRes := runF 6 1 p_law_marks_v11
def b_law_told_v35_1 : DSt → Flow := fseq (fIfS (fB (fOp (lift2 eqO) (fVar 0) (fC (.int 0)))) (fSet 3 (fUser F_read_folk_v6 (fCons (fVar 1) fNil))) fnext) (fIfS (fB (fOp (lift2 eqO) (fVar 0) (fC (.int 1)))) (fSet 3 (fUser F_read_ranking_v9 (fCons (fVar 1) fNil))) fnext)
def p_law_told_v35 : DSt → Flow := fseq (fSet 2 (fC .none)) (fseq (fSet 3 (fC .none)) (fseq (fTryA ["NoText"] 4 2 b_law_told_v35_1) (fseq (fIfS (fB (fIsN false (fVar 2))) (fRet (fTup (fCons (fVar 3) fNil))) fnext) (fseq (fIfS (fOr (fB (fOp (lift2 neO) (fUser F_law_marks_v11 (fCons (fVar 2) fNil)) (fLst (fCons (fC (.str "NoText")) fNil)))) (fB (fIsi "bool" (fFld "NoText" (fVar 2))))) (fRet (fC .none)) fnext) (fRet (fLst (fCons (fFld "NoText" (fVar 2)) fNil)))))))
def F_law_told_v35 : List R → Pw → FRes := runF 5 2 p_law_told_v35
def b_law_refusals_held_v5_1 : DSt → Flow := fDrop (fUser F_read_folk_v6 (fCons (fVar 2) fNil))
def b_law_refusals_held_v5_2 : DSt → Flow := fSet 3 (fC .none)
def b_law_refusals_held_v5_3 : DSt → Flow := fTryA ["NoText"] 4 3 b_law_refusals_held_v5_1
def p_law_refusals_held_v5 : DSt → Flow := fseq (fSet 0 (fLst fNil)) (fseq (fSet 1 (fLst (fCons (fC (.str "")) (fCons (fC (.str "1>2\n2>1\n1>1\n")) (fCons (fC (.str "3>1\n1>3")) (fCons (fC (.str "0\n0\n1\n")) fNil)))))) (fseq (fForH 0 3 "NoText" (fLstI (fVar 1)) (bName 2) b_law_refusals_held_v5_2 b_law_refusals_held_v5_3) (fRet (fOp (lift2 eqO) (fFlds "NoText" 3 (fVar 0)) (fLst (fCons (fC (.int 0)) (fCons (fC (.int 2)) (fCons (fC (.int 1)) (fCons (fC (.int 2)) fNil)))))))))
def F_law_refusals_held_v5 : List R → Pw → FRes := runF 5 0 p_law_refusals_held_v5
/-! what the law is told -/
theorem marks_text {n : Int} {w : Pw} : F_law_marks_v11 [.ob (.exc ⟨"NoText", some (.int n)⟩)] w = .ok (.new [.str "NoText"]) w := by
  have sp0 : Txt.split (Str.ofString "NoRanking NoFolk NoNames NoFit NoLine NoNumber NoTree NoPaper") (Str.ofString " ") = (["NoRanking", "NoFolk", "NoNames", "NoFit", "NoLine", "NoNumber", "NoTree", "NoPaper"] : List Str) := by decide +kernel
  have cc0 : ((Str.ofString " ").length == 0) = false ∧ leS ((Str.ofString "NoRanking NoFolk NoNames NoFit NoLine NoNumber NoTree NoPaper").length + 2) := ⟨by decide +kernel, size_le (by decide +kernel)⟩
  have sp1 : Txt.split (Str.ofString "NoText NoTitle NoRow NoBack TooGreat NoWeights NoFall NoTops") (Str.ofString " ") = (["NoText", "NoTitle", "NoRow", "NoBack", "TooGreat", "NoWeights", "NoFall", "NoTops"] : List Str) := by decide +kernel
  have cc1 : ((Str.ofString " ").length == 0) = false ∧ leS ((Str.ofString "NoText NoTitle NoRow NoBack TooGreat NoWeights NoFall NoTops").length + 2) := ⟨by decide +kernel, size_le (by decide +kernel)⟩
  have sp2 : Txt.split (Str.ofString "NoFixed NoHand NoRule") (Str.ofString " ") = (["NoFixed", "NoHand", "NoRule"] : List Str) := by decide +kernel
  have cc2 : ((Str.ofString " ").length == 0) = false ∧ leS ((Str.ofString "NoFixed NoHand NoRule").length + 2) := ⟨by decide +kernel, size_le (by decide +kernel)⟩
  obtain ⟨Ws, hWs⟩ : ∃ Ws : List PyData, [PyData.str "NoRanking", PyData.str "NoFolk", PyData.str "NoNames", PyData.str "NoFit", PyData.str "NoLine", PyData.str "NoNumber", PyData.str "NoTree", PyData.str "NoPaper", PyData.str "NoText", PyData.str "NoTitle", PyData.str "NoRow", PyData.str "NoBack", PyData.str "TooGreat", PyData.str "NoWeights", PyData.str "NoFall", PyData.str "NoTops", PyData.str "NoFixed", PyData.str "NoHand", PyData.str "NoRule"] = Ws := ⟨_, rfl⟩
  obtain ⟨Hs, hHs⟩ : ∃ Hs : List PyData, [PyData.bool false, PyData.bool false, PyData.bool false, PyData.bool false, PyData.bool false, PyData.bool false, PyData.bool false, PyData.bool false, PyData.bool true, PyData.bool false, PyData.bool false, PyData.bool false, PyData.bool false, PyData.bool false, PyData.bool false, PyData.bool false, PyData.bool false, PyData.bool false, PyData.bool false] = Hs := ⟨_, rfl⟩
  obtain ⟨L, hL, lL, fL⟩ : ∃ L : List (Str × Bool), zipD Ws Hs = L.map tgC ∧ L.length = 19 ∧ (L.filter (·.2)).map (fun p => PyData.str p.1) = [.str "NoText"] := by
    refine ⟨[("NoRanking", false), ("NoFolk", false), ("NoNames", false), ("NoFit", false), ("NoLine", false), ("NoNumber", false), ("NoTree", false), ("NoPaper", false), ("NoText", true), ("NoTitle", false), ("NoRow", false), ("NoBack", false), ("TooGreat", false), ("NoWeights", false), ("NoFall", false), ("NoTops", false), ("NoFixed", false), ("NoHand", false), ("NoRule", false)], ?_, rfl, rfl⟩
    rw [← hWs, ← hHs]; rfl
  have e : l_law_marks_v11_2 ⟨[.ob (.exc ⟨"NoText", some (.int n)⟩), .own Hs, .own Ws, .no, .no, .no], w⟩ = .ok (.new ((L.filter (·.2)).map fun p => .str p.1)) ⟨[.ob (.exc ⟨"NoText", some (.int n)⟩), .val (.list Hs), .val (.list Ws), .no, .no, .no], w⟩ := by
    refine lc_gen (fun p : Str × Bool => ⟨[.ob (.exc ⟨"NoText", some (.int n)⟩), .val (.list Hs), .val (.list Ws), .no, .val (.str p.1), .val (.bool p.2)], w⟩) _ _ (f := tgC) (l := L) (by simp -implicitDefEqProofs [hL]) (by omega) rfl (fun a _ => by rfl) (fun a _ => by rfl) (fun p hp => ?_) (fun p hp _ => ?_)
    · unfold t_law_marks_v11_1
      simp -implicitDefEqProofs
    · unfold e_law_marks_v11_2
      simp -implicitDefEqProofs
  rw [fL] at e
  have s1 : leS 1 := size_le (by omega)
  have s3 : leS 3 := size_le (by omega)
  have s6 : leS 6 := size_le (by omega)
  have s9 : leS 9 := size_le (by omega)
  have s12 : leS 12 := size_le (by omega)
  have s15 : leS 15 := size_le (by omega)
  have s18 : leS 18 := size_le (by omega)
  have s19 : leS 19 := size_le (by omega)
  have s16 : leS 16 := size_le (by omega)
  unfold F_law_marks_v11 p_law_marks_v11
  simp only [x_runF]
  simp -implicitDefEqProofs [s1, s3, s6, s9, s12, s15, s18, s19, s16, sp0, sp1, sp2, cc0, cc1, cc2, hWs, hHs, e]
theorem told_folk {x : Str} {w : Pw} (h : TextOk x) : (∀ f, folkV x = .inl f → F_law_told_v35 [.val (.int (0)), .val (.str x)] w = .ok (.val (.tuple [.list (f.map llD)])) w) ∧ (∀ k, folkV x = .inr k → F_law_told_v35 [.val (.int (0)), .val (.str x)] w = .ok (.new [.int (k : Int)]) w) := by
  refine ⟨fun f hf => ?_, fun k hk => ?_⟩
  · have e := (read_folk_any (w := w) h).1 f hf
    have hb : b_law_told_v35_1 ⟨[.val (.int (0)), .val (.str x), .val .none, .val .none, .no], w⟩ = .next ⟨[.val (.int (0)), .val (.str x), .val .none, .own (f.map llD), .no], w⟩ := by
      unfold b_law_told_v35_1
      simp -implicitDefEqProofs [e]
    unfold F_law_told_v35 p_law_told_v35
    simp only [x_runF]
    simp -implicitDefEqProofs [hb]
  · have e := (read_folk_any (w := w) h).2 k hk
    have hb : b_law_told_v35_1 ⟨[.val (.int (0)), .val (.str x), .val .none, .val .none, .no], w⟩ = .err ⟨"NoText", some (.int (k : Int))⟩ ⟨[.val (.int (0)), .val (.str x), .val .none, .val .none, .no], w⟩ := by
      unfold b_law_told_v35_1
      simp -implicitDefEqProofs [e]
    have ar : argOk (some (.int (k : Int))) := .inr ⟨_, rfl⟩
    have hm := marks_text (n := (k : Int)) (w := w)
    have eq : neO (.list [.str (Str.ofString "NoText")]) (.list [.str (Str.ofString "NoText")]) = some (.val (.bool false)) := neO_self (n := 2) (by simp) (by omega)
    unfold F_law_told_v35 p_law_told_v35
    simp only [x_runF]
    simp -implicitDefEqProofs [hb, y_kTryA_err ar, hm, eq]
theorem told_word {x : Str} {w : Pw} (h : WordOk x) : (∀ r, rankV x = some r → F_law_told_v35 [.val (.int (1)), .val (.str x)] w = .ok (.val (.tuple [.list (r.map .int)])) w) ∧ (rankV x = none → F_law_told_v35 [.val (.int (1)), .val (.str x)] w = .ok (.new [.int 0]) w) := by
  have e0 := ranked_any (w := w) h
  refine ⟨fun f hf => ?_, fun hk => ?_⟩
  · have e : F_read_ranking_v9 [.val (.str x)] w = .ok (.new (f.map .int)) w := by
      rw [hf] at e0
      unfold F_read_ranking_v9 p_read_ranking_v9
      simp only [x_runF]
      simp -implicitDefEqProofs [e0, rkR]
    have hb : b_law_told_v35_1 ⟨[.val (.int (1)), .val (.str x), .val .none, .val .none, .no], w⟩ = .next ⟨[.val (.int (1)), .val (.str x), .val .none, .own (f.map .int), .no], w⟩ := by
      unfold b_law_told_v35_1
      simp -implicitDefEqProofs [e]
    unfold F_law_told_v35 p_law_told_v35
    simp only [x_runF]
    simp -implicitDefEqProofs [hb]
  · have e : F_read_ranking_v9 [.val (.str x)] w = .err ⟨"NoText", some (.int 0)⟩ w := by
      rw [hk] at e0
      unfold F_read_ranking_v9 p_read_ranking_v9
      simp only [x_runF]
      simp -implicitDefEqProofs [e0, rkR]
    have hb : b_law_told_v35_1 ⟨[.val (.int (1)), .val (.str x), .val .none, .val .none, .no], w⟩ = .err ⟨"NoText", some (.int 0)⟩ ⟨[.val (.int (1)), .val (.str x), .val .none, .val .none, .no], w⟩ := by
      unfold b_law_told_v35_1
      simp -implicitDefEqProofs [e]
    have ar : argOk (some (.int 0)) := .inr ⟨_, rfl⟩
    have hm := marks_text (n := 0) (w := w)
    have eq : neO (.list [.str (Str.ofString "NoText")]) (.list [.str (Str.ofString "NoText")]) = some (.val (.bool false)) := neO_self (n := 2) (by simp) (by omega)
    unfold F_law_told_v35 p_law_told_v35
    simp only [x_runF]
    simp -implicitDefEqProofs [hb, y_kTryA_err ar, hm, eq]
/-! texts by their signs -/
theorem spl_count {c : Nat} : ∀ (l acc : List Nat), (TL.spl [c] 0 acc l).length = l.count c + 1
  | [], acc => by rw [TL.spl_nil]; simp
  | a :: l, acc => by
    by_cases h : a = c
    · subst h
      rw [TL.spl_hit (by simp [TL.pre])]
      show (TL.spl [a] 0 [] l).length + 1 = _
      rw [spl_count l []]
      simp
    · rw [TL.spl_miss (by simp [TL.pre, h]), spl_count l]
      rw [List.count_cons_of_ne (by simpa using h)]
theorem split_n {x : Str} : (Txt.split x (Str.ofString "\n")).length = (TL.tl x).count 10 + 1 := by
  have e := TL.split_spl x (Str.ofString "\n") (by rw [tl_nl]; simp) (TL.kind_ok (by decide +kernel))
  have := congrArg List.length e
  rw [List.length_map, tl_nl, spl_count] at this
  exact this

end DL

noncomputable section
namespace DL
open PySem L2

/-! texts by their signs: how long, how many rows -/
def RB (A B : Nat) (l : List Nat) : Prop := ∀ s, s <:+: l → 10 ∉ s → s.length ≤ A ∧ s.count 62 ≤ B
def Ft (A B C : Nat) (l : List Nat) : Prop := RB A B l ∧ l.count 10 + 1 ≤ C
theorem infix_app {s a b : List Nat} (h : s <:+: a ++ b) : s <:+: a ∨ s <:+: b ∨ ∃ s1 s2, s = s1 ++ s2 ∧ s1 <:+ a ∧ s2 <+: b := by
  obtain ⟨p, q, e⟩ := h
  rw [List.append_assoc] at e
  rcases List.append_eq_append_iff.mp e with ⟨m, e1, e2⟩ | ⟨m, e1, e2⟩
  · rcases List.append_eq_append_iff.mp e2 with ⟨k, e3, e4⟩ | ⟨k, e3, e4⟩
    · exact .inl ⟨p, k, by rw [e1, e3, List.append_assoc]⟩
    · exact .inr (.inr ⟨m, k, e3, ⟨p, e1.symm⟩, ⟨q, e4.symm⟩⟩)
  · exact .inr (.inl ⟨m, q, by rw [e2, List.append_assoc]⟩)
theorem RB.app {A B A' B' : Nat} {a b : List Nat} (h1 : RB A B a) (h2 : RB A' B' b) : RB (A + A') (B + B') (a ++ b) := fun s hs h10 => by
  rcases infix_app hs with h | h | ⟨s1, s2, rfl, h3, h4⟩
  · have := h1 s h h10; omega
  · have := h2 s h h10; omega
  · have h5 := h1 s1 h3.isInfix (fun z => h10 (by simp [z]))
    have h6 := h2 s2 h4.isInfix (fun z => h10 (by simp [z]))
    rw [List.length_append, List.count_append]
    omega
theorem RB.sep {A B : Nat} {a b : List Nat} (h1 : RB A B a) (h2 : RB A B b) : RB A B (a ++ 10 :: b) := fun s hs h10 => by
  have hc : ∀ t, t <+: 10 :: b → 10 ∉ t → t = [] := fun t ht hn => by
    cases t with
    | nil => rfl
    | cons c t =>
      obtain ⟨q, e⟩ := ht
      have : c = 10 := (List.cons.inj e).1
      exact absurd (by simp [this]) hn
  rcases infix_app hs with h | h | ⟨s1, s2, rfl, h3, h4⟩
  · exact h1 s h h10
  · rcases List.infix_cons_iff.mp h with h | h
    · rw [hc s h h10]; simp
    · exact h2 s h h10
  · rw [hc s2 h4 (fun z => h10 (by simp [z])), List.append_nil]
    exact h1 s1 h3.isInfix (fun z => h10 (by simp [z]))
theorem RB.sub {A B : Nat} {a b : List Nat} (h : RB A B a) (s : b <:+: a) : RB A B b := fun t ht h10 => h t (ht.trans s) h10
theorem RB.le {A B A' B' : Nat} {a : List Nat} (h : RB A B a) (hA : A ≤ A') (hB : B ≤ B') : RB A' B' a := fun t ht h10 => by have := h t ht h10; omega
theorem RB.short {k : Nat} {a : List Nat} (h : a.length ≤ k) : RB k k a := fun t ht _ => by
  have := ht.length_le
  have := List.count_le_length (a := 62) (l := t)
  omega
theorem Ft.sub {A B C : Nat} {a b : List Nat} (h : Ft A B C a) (s : b <:+: a) : Ft A B C b := ⟨h.1.sub s, by have := h.2; have := s.sublist.count_le 10; omega⟩
theorem Ft.app {A B C A' B' C' : Nat} {a b : List Nat} (h1 : Ft A B C a) (h2 : Ft A' B' C' b) : Ft (A + A') (B + B') (C + C') (a ++ b) := ⟨h1.1.app h2.1, by rw [List.count_append]; have := h1.2; have := h2.2; omega⟩
theorem Ft.le {A B C A' B' C' : Nat} {a : List Nat} (h : Ft A B C a) (hA : A ≤ A') (hB : B ≤ B') (hC : C ≤ C') : Ft A' B' C' a := ⟨h.1.le hA hB, Nat.le_trans h.2 hC⟩
theorem Ft.short {k : Nat} {a : List Nat} (h : a.length ≤ k) : Ft k k (k + 1) a := ⟨.short h, by have := List.count_le_length (a := 10) (l := a); omega⟩
theorem RB.join {A B : Nat} : ∀ {rows : List (List Nat)}, (∀ r ∈ rows, RB A B r) → RB A B (TL.joinL [10] rows)
  | [], _ => fun s hs _ => by
    have := hs.length_le
    have : s = [] := by
      cases s with
      | nil => rfl
      | cons a s => simp [TL.joinL] at this
    rw [this]; simp
  | [r], h => by simpa [TL.joinL] using h r (by simp)
  | r :: q :: rows, h => by
    have ih := RB.join (rows := q :: rows) fun x hx => h x (by simp [hx])
    have := (h r (by simp)).sep ih
    simpa [TL.joinL] using this
theorem count_join {c : Nat} {S : List Nat} (hS : S.count c ≤ 1) : ∀ {rows : List (List Nat)}, (∀ r ∈ rows, c ∉ r) → (TL.joinL S rows).count c ≤ rows.length - 1
  | [], _ => by simp [TL.joinL]
  | [r], h => by simp [TL.joinL, List.count_eq_zero_of_not_mem (h r (by simp))]
  | r :: q :: rows, h => by
    have ih := count_join hS (rows := q :: rows) fun x hx => h x (by simp [hx])
    have := List.count_eq_zero_of_not_mem (h r (by simp))
    simp only [TL.joinL, List.count_append, List.length_cons] at ih ⊢
    omega
theorem Ft.join {A B C : Nat} {rows : List (List Nat)} (h : ∀ r ∈ rows, RB A B r ∧ 10 ∉ r) (hC : rows.length ≤ C) (h1 : 1 ≤ C) : Ft A B C (TL.joinL [10] rows) := ⟨.join fun r hr => (h r hr).1, by
  have := count_join (c := 10) (S := [10]) (by simp) fun r hr => (h r hr).2
  omega⟩
/-! ### the parts of a text -/
theorem spl_mem {c : Nat} : ∀ (l acc : List Nat), c ∉ acc → ∀ r ∈ TL.spl [c] 0 acc l, r <:+: acc ++ l ∧ c ∉ r
  | [], acc, h, r, hr => by rw [TL.spl_nil] at hr; simp at hr; subst hr; exact ⟨by simp, h⟩
  | a :: l, acc, h, r, hr => by
    by_cases e : a = c
    · subst e
      rw [TL.spl_hit (by simp [TL.pre])] at hr
      rcases List.mem_cons.mp hr with rfl | hr
      · exact ⟨(List.prefix_append _ _).isInfix, h⟩
      · obtain ⟨h1, h2⟩ := spl_mem l [] (by simp) r hr
        exact ⟨h1.trans ⟨acc ++ [a], [], by simp⟩, h2⟩
    · rw [TL.spl_miss (by simp [TL.pre, e])] at hr
      have := spl_mem l (acc ++ [a]) (by simp [h, Ne.symm e]) r hr
      rwa [List.append_assoc] at this
theorem joinL_cons {S r : List Nat} {ps : List (List Nat)} (h : ps ≠ []) : TL.joinL S (r :: ps) = r ++ (S ++ TL.joinL S ps) := by
  cases ps with
  | nil => exact absurd rfl h
  | cons q ps => simp [TL.joinL]
theorem join_spl {c : Nat} : ∀ (l acc : List Nat), TL.joinL [c] (TL.spl [c] 0 acc l) = acc ++ l
  | [], acc => by rw [TL.spl_nil]; simp [TL.joinL]
  | a :: l, acc => by
    by_cases e : a = c
    · subst e
      rw [TL.spl_hit (by simp [TL.pre])]
      have hn : TL.spl [a] ([a].length - 1) [] l ≠ [] := List.length_pos_iff.mp (by
        show 0 < (TL.spl [a] 0 [] l).length
        rw [spl_count]; omega)
      rw [joinL_cons hn, show TL.spl [a] ([a].length - 1) [] l = TL.spl [a] 0 [] l from rfl, join_spl l []]
      simp
    · rw [TL.spl_miss (by simp [TL.pre, e]), join_spl l, List.append_assoc]
      rfl
theorem Ft.len {A B C : Nat} {l : List Nat} (h : Ft A B C l) : l.length ≤ C * (A + 1) := by
  have e := join_spl (c := 10) l []
  rw [List.nil_append] at e
  rw [← e]
  have := len_joinL [10] (k := A) (ps := TL.spl [10] 0 [] l) fun p hp => by
    obtain ⟨h1, h2⟩ := spl_mem l [] (by simp) p hp
    exact (h.1 p h1 h2).1
  rw [spl_count] at this
  exact Nat.le_trans this (Nat.mul_le_mul_right _ h.2)
/-! ### texts -/
def FtS (A B C : Nat) (x : Str) : Prop := Ft A B C (TL.tl x)
theorem spl_nlS (x : Str) : (Txt.split x (Str.ofString "\n")).map TL.tl = TL.spl [10] 0 [] (TL.tl x) := by
  rw [TL.split_spl x (Str.ofString "\n") (by rw [tl_nl]; simp) (TL.kind_ok (by decide +kernel)), tl_nl]
theorem spl_gtS (x : Str) : (Txt.split x (Str.ofString ">")).map TL.tl = TL.spl [62] 0 [] (TL.tl x) := by
  rw [TL.split_spl x (Str.ofString ">") (by rw [tl_gt]; simp) (TL.kind_ok (by decide +kernel)), tl_gt]
theorem split_gt {x : Str} : (Txt.split x (Str.ofString ">")).length = (TL.tl x).count 62 + 1 := by
  have := congrArg List.length (spl_gtS x)
  rw [List.length_map, spl_count] at this
  exact this
theorem size_big {n : Nat} (h : n ≤ 5592405) : leS n := Nat.le_trans h (by decide +kernel)
theorem FtS.row {A B C : Nat} {x y : Str} (h : FtS A B C x) (hy : y ∈ Txt.split x (Str.ofString "\n")) : RB A B (TL.tl y) ∧ 10 ∉ TL.tl y := by
  have hm : TL.tl y ∈ TL.spl [10] 0 [] (TL.tl x) := by rw [← spl_nlS]; exact List.mem_map_of_mem hy
  obtain ⟨h1, h2⟩ := spl_mem (TL.tl x) [] (by simp) _ hm
  exact ⟨h.1.sub h1, h2⟩
theorem row_word {A B : Nat} {y : Str} (h : RB A B (TL.tl y)) (h10 : 10 ∉ TL.tl y) (lA : A + 2 ≤ 5592405) (lB : B + 1 ≤ 1000) : WordOk y := by
  have := h _ (List.infix_refl _) h10
  refine ⟨size_big (by rw [wI_len]; omega), ?_⟩
  rw [split_gt]
  omega
theorem FtS.ok {A B C : Nat} {x : Str} (h : FtS A B C x) (lA : A + 2 ≤ 5592405) (lB : B + 1 ≤ 1000) (lC : C ≤ 1000) (hl : C * (A + 1) + 2 ≤ 5592405) : TextOk x := by
  refine ⟨size_big (by rw [wI_len]; have := Ft.len h; omega), ?_, fun y hy => ?_⟩
  · rw [split_n]; have := h.2; omega
  · exact row_word (h.row hy).1 (h.row hy).2 lA lB
theorem tl_cut {x : Str} {lo hi : Option Int} : TL.tl (cutS x lo hi) <:+: TL.tl x := by
  have : TL.tl (cutS x lo hi) = ((TL.tl x).drop (HT.sIx x.length 0 lo)).take (HT.sIx x.length x.length hi - HT.sIx x.length 0 lo) := rfl
  rw [this]
  exact (List.take_prefix _ _).isInfix.trans (List.drop_suffix _ _).isInfix

end DL

noncomputable section
namespace DL
open PySem L2

/-! four texts refused -/
theorem rankV_of {x : Str} {ns : List Int} (h : (Txt.split x (Str.ofString ">")).map numV = ns.map some) (hr : Rank ns) : rankV x = some ns := by
  have : ∀ l : List Int, allS (l.map some) = some l := fun l => by
    induction l with
    | nil => rfl
    | cons a l ih => simp [allS, ih]
  unfold rankV
  rw [h, this]
  exact if_pos hr
theorem rankV_not {x : Str} {ns : List Int} (h : (Txt.split x (Str.ofString ">")).map numV = ns.map some) (hr : ¬ Rank ns) : rankV x = none := by
  have : ∀ l : List Int, allS (l.map some) = some l := fun l => by
    induction l with
    | nil => rfl
    | cons a l ih => simp [allS, ih]
  unfold rankV
  rw [h, this]
  exact if_neg hr
theorem short_ok {x : Str} (h : x.length ≤ 40) : TextOk x := by
  have := FtS.ok (x := x) (Ft.short (k := 40) (by rw [← wI_len]; exact h))
  exact this (by omega) (by omega) (by omega) (by omega)
theorem folk_t1 : folkV (Str.ofString "") = .inr 0 := by
  rw [folkV_eq (I := []) (z := Str.ofString "") (by decide +kernel)]
  simp [foldK]
theorem folk_t2 : folkV (Str.ofString "1>2\n2>1\n1>1\n") = .inr 2 := by
  rw [folkV_eq (I := [Str.ofString "1>2", Str.ofString "2>1", Str.ofString "1>1"]) (z := Str.ofString "") (by decide +kernel)]
  have r1 : rankV (Str.ofString "1>2") = some [1, 2] := rankV_of (by decide +kernel) ⟨by decide, by decide, by decide, by decide⟩
  have r2 : rankV (Str.ofString "2>1") = some [2, 1] := rankV_of (by decide +kernel) ⟨by decide, by decide, by decide, by decide⟩
  have r3 : rankV (Str.ofString "1>1") = none := rankV_not (ns := [1, 1]) (by decide +kernel) fun h => by simpa using h.1
  have s1 : sortI [2, 1] = sortI [1, 2] := sortI_eq ((sortI_perm _).trans (.swap _ _ _)) (sortI_le _)
  simp [foldK, r1, r2, r3, s1]
theorem folk_t3 : folkV (Str.ofString "3>1\n1>3") = .inr 1 := by
  rw [folkV_eq (I := [Str.ofString "3>1"]) (z := Str.ofString "1>3") (by decide +kernel)]
  have r1 : rankV (Str.ofString "3>1") = some [3, 1] := rankV_of (by decide +kernel) ⟨by decide, by decide, by decide, by decide⟩
  have n1 : ¬ Str.ofString "1>3" = Str.ofString "" := by decide +kernel
  simp [foldK, r1, n1]
theorem folk_t4 : folkV (Str.ofString "0\n0\n1\n") = .inr 2 := by
  rw [folkV_eq (I := [Str.ofString "0", Str.ofString "0", Str.ofString "1"]) (z := Str.ofString "") (by decide +kernel)]
  have r1 : rankV (Str.ofString "0") = some [0] := rankV_of (by decide +kernel) ⟨by decide, by decide, by decide, by decide⟩
  have r2 : rankV (Str.ofString "1") = some [1] := rankV_of (by decide +kernel) ⟨by decide, by decide, by decide, by decide⟩
  have s1 : ¬ sortI [1] = sortI [0] := by decide +kernel
  simp [foldK, r1, r2, s1]
theorem held_step {t : Str} {k : Nat} {a : Addr} {L : List PyData} {v3 v4 : Sl} {w : Pw} (h : TextOk t) (hk : folkV t = .inr k) :
    b_law_refusals_held_v5_2 ⟨[.raw (.ref a), .val (.list L), .val (.str t), v3, v4], w⟩ = .next ⟨[.raw (.ref a), .val (.list L), .val (.str t), .val .none, v4], w⟩ ∧
    b_law_refusals_held_v5_3 ⟨[.raw (.ref a), .val (.list L), .val (.str t), .val .none, v4], w⟩ = .next ⟨[.raw (.ref a), .val (.list L), .val (.str t), .ob (.exc ⟨"NoText", some (.int (k : Int))⟩), .no], w⟩ := by
  have e := (read_folk_any (w := w) h).2 k hk
  have hb : b_law_refusals_held_v5_1 ⟨[.raw (.ref a), .val (.list L), .val (.str t), .val .none, v4], w⟩ = .err ⟨"NoText", some (.int (k : Int))⟩ ⟨[.raw (.ref a), .val (.list L), .val (.str t), .val .none, v4], w⟩ := by
    unfold b_law_refusals_held_v5_1
    simp -implicitDefEqProofs [e]
  have ar : argOk (some (.int (k : Int))) := .inr ⟨_, rfl⟩
  refine ⟨?_, ?_⟩
  · unfold b_law_refusals_held_v5_2
    simp -implicitDefEqProofs
  · unfold b_law_refusals_held_v5_3
    simp -implicitDefEqProofs [hb, y_kTryA_err ar]
theorem held_ok {w : Pw} : F_law_refusals_held_v5 [] w = .ok (.val (.bool true)) w := by
  obtain ⟨L, hL⟩ : ∃ L, [PyData.str (Str.ofString ""), .str (Str.ofString "1>2\n2>1\n1>1\n"), .str (Str.ofString "3>1\n1>3"), .str (Str.ofString "0\n0\n1\n")] = L := ⟨_, rfl⟩
  have o : okH 0 3 "NoText" (bName 2) b_law_refusals_held_v5_2 b_law_refusals_held_v5_3 L ⟨[.own [], .val (.list L), .no, .no, .no], w⟩ ([0, 2, 1, 2], ⟨[.own [], .val (.list L), .val (.str (Str.ofString "0\n0\n1\n")), .ob (.exc ⟨"NoText", some (.int 2)⟩), .no], w⟩) := fun a => by
    have l0 : ltS 0 := size_lt (by omega)
    have l1 : ltS 1 := size_lt (by omega)
    have l2 : ltS 2 := size_lt (by omega)
    have l3 : ltS 3 := size_lt (by omega)
    have h1 := fun v3 v4 => (held_step (a := a) (L := L) (v3 := v3) (v4 := v4) (w := w) (short_ok (x := Str.ofString "") (by decide +kernel)) folk_t1).1
    have g1 := fun v4 => (held_step (a := a) (L := L) (v3 := .no) (v4 := v4) (w := w) (short_ok (x := Str.ofString "") (by decide +kernel)) folk_t1).2
    have h2 := fun v3 v4 => (held_step (a := a) (L := L) (v3 := v3) (v4 := v4) (w := w) (short_ok (x := Str.ofString "1>2\n2>1\n1>1\n") (by decide +kernel)) folk_t2).1
    have g2 := fun v4 => (held_step (a := a) (L := L) (v3 := .no) (v4 := v4) (w := w) (short_ok (x := Str.ofString "1>2\n2>1\n1>1\n") (by decide +kernel)) folk_t2).2
    have h3 := fun v3 v4 => (held_step (a := a) (L := L) (v3 := v3) (v4 := v4) (w := w) (short_ok (x := Str.ofString "3>1\n1>3") (by decide +kernel)) folk_t3).1
    have g3 := fun v4 => (held_step (a := a) (L := L) (v3 := .no) (v4 := v4) (w := w) (short_ok (x := Str.ofString "3>1\n1>3") (by decide +kernel)) folk_t3).2
    have h4 := fun v3 v4 => (held_step (a := a) (L := L) (v3 := v3) (v4 := v4) (w := w) (short_ok (x := Str.ofString "0\n0\n1\n") (by decide +kernel)) folk_t4).1
    have g4 := fun v4 => (held_step (a := a) (L := L) (v3 := .no) (v4 := v4) (w := w) (short_ok (x := Str.ofString "0\n0\n1\n") (by decide +kernel)) folk_t4).2
    have b2 : ∀ (d : PyData) (v2 v3 v4 : Sl), bName 2 d ⟨[.raw (.ref a), .val (.list L), v2, v3, v4], w⟩ = some ⟨[.raw (.ref a), .val (.list L), .val d, v3, v4], w⟩ := fun d v2 v3 v4 => rfl
    show runH 0 3 "NoText" (bName 2) b_law_refusals_held_v5_2 b_law_refusals_held_v5_3 L [] ⟨[.raw (.ref a), .val (.list L), .no, .no, .no], w⟩ = some ([0, 2, 1, 2], ⟨[.raw (.ref a), .val (.list L), .val (.str (Str.ofString "0\n0\n1\n")), .ob (.exc ⟨"NoText", some (.int 2)⟩), .no], w⟩)
    have : ∀ L2 : List PyData, L2 = L → runH 0 3 "NoText" (bName 2) b_law_refusals_held_v5_2 b_law_refusals_held_v5_3 L2 [] ⟨[.raw (.ref a), .val (.list L), .no, .no, .no], w⟩ = some ([0, 2, 1, 2], ⟨[.raw (.ref a), .val (.list L), .val (.str (Str.ofString "0\n0\n1\n")), .ob (.exc ⟨"NoText", some (.int 2)⟩), .no], w⟩) := fun L2 h => by
      rw [← hL] at h
      subst h
      simp only [runH, b2, h1, h2, h3, h4, g1, g2, g3, g4, List.getElem?_cons_succ, List.getElem?_cons_zero, List.length_nil, List.length_cons, List.nil_append, List.cons_append, l0, l1, l2, l3, and_self, if_true, Nat.zero_add, Nat.reduceAdd]
      rfl
    exact this L rfl
  have kf := kForH_ok (j := 0) (c := 3) (s := ⟨[.own [], .val (.list L), .no, .no, .no], w⟩) rfl o
  have l4 : leS 4 := size_le (by omega)
  unfold F_law_refusals_held_v5 p_law_refusals_held_v5
  simp only [x_runF]
  have eq : eqO (.list [.int 0, .int 2, .int 1, .int 2]) (.list [.int 0, .int 2, .int 1, .int 2]) = some (.val (.bool true)) := by simpa using x_eqL (a := [0, 2, 1, 2]) (b := [0, 2, 1, 2])
  have lL : L.length = 4 := by rw [← hL]; rfl
  simp -implicitDefEqProofs [hL, kf, l4, lL, eq]

end DL

noncomputable section
namespace DL
open PySem L2

/-! bent texts: the plain facts -/
theorem FtS.app {A B C A' B' C' : Nat} {a b : Str} (h1 : FtS A B C a) (h2 : FtS A' B' C' b) : FtS (A + A') (B + B') (C + C') (a ++ b) := by
  unfold FtS at *
  rw [TL.tl_append]
  exact h1.app h2
theorem FtS.cut {A B C : Nat} {x : Str} {lo hi : Option Int} (h : FtS A B C x) : FtS A B C (cutS x lo hi) := Ft.sub h tl_cut
theorem cut_one {x : Str} {k : Nat} : (cutS x (some (k : Int)) (some ((k : Int) + 1))).length ≤ 1 := by
  rw [wI_len]
  have : TL.tl (cutS x (some (k : Int)) (some ((k : Int) + 1))) = ((TL.tl x).drop (HT.sIx x.length 0 (some (k : Int)))).take (HT.sIx x.length x.length (some ((k : Int) + 1)) - HT.sIx x.length 0 (some (k : Int))) := rfl
  rw [this, List.length_take, show ((k : Int) + 1) = ((k + 1 : Nat) : Int) by simp, HT.sIx_nat, HT.sIx_nat]
  omega
theorem cut_len {x : Str} {lo hi : Option Int} : (cutS x lo hi).length ≤ x.length := by
  rw [wI_len, wI_len]
  exact (tl_cut (x := x) (lo := lo) (hi := hi)).length_le
theorem app_len {a b : Str} : (a ++ b).length = a.length + b.length := by
  rw [wI_len, wI_len, wI_len, TL.tl_append, List.length_append]
theorem FtS.small {k : Nat} {x : Str} (h : x.length ≤ k) : FtS k k (k + 1) x := Ft.short (by rw [← wI_len]; exact h)
theorem FtS.le {A B C A' B' C' : Nat} {x : Str} (h : FtS A B C x) (hA : A ≤ A') (hB : B ≤ B') (hC : C ≤ C') : FtS A' B' C' x := Ft.le h hA hB hC
theorem FtS.len {A B C : Nat} {x : Str} (h : FtS A B C x) : x.length ≤ C * (A + 1) := by
  rw [wI_len]
  exact Ft.len h
structure RowS (A B : Nat) (y : Str) : Prop where
  l : y.length ≤ A
  c : (TL.tl y).count 62 ≤ B
  n : 10 ∉ TL.tl y
theorem RowS.rb {A B : Nat} {y : Str} (h : RowS A B y) : RB A B (TL.tl y) := fun s hs _ => ⟨Nat.le_trans hs.length_le (by rw [← wI_len]; exact h.l), Nat.le_trans (hs.sublist.count_le _) h.c⟩
theorem FtS.rowS {A B C : Nat} {x y : Str} (h : FtS A B C x) (hy : y ∈ Txt.split x (Str.ofString "\n")) : RowS A B y := by
  obtain ⟨h1, h2⟩ := h.row hy
  have := h1 _ (List.infix_refl _) h2
  exact ⟨by rw [wI_len]; exact this.1, this.2, h2⟩
theorem RowS.le {A B A' B' : Nat} {y : Str} (h : RowS A B y) (hA : A ≤ A') (hB : B ≤ B') : RowS A' B' y := ⟨Nat.le_trans h.l hA, Nat.le_trans h.c hB, h.n⟩
theorem RowS.word {A B : Nat} {y : Str} (h : RowS A B y) (lA : A + 2 ≤ 5592405) (lB : B + 1 ≤ 1000) : WordOk y := row_word h.rb h.n lA lB
theorem join_rows {A B C : Nat} {rows : List Str} (h : ∀ r ∈ rows, RowS A B r) (hC : rows.length ≤ C) (h1 : 1 ≤ C) : FtS A B C (Txt.join (Str.ofString "\n") rows) := by
  unfold FtS
  rw [TL.join_eq, TL.tl_join, tl_nl]
  refine .join (fun r hr => ?_) (by rw [List.length_map]; exact hC) h1
  obtain ⟨y, hy, rfl⟩ := List.mem_map.mp hr
  exact ⟨(h y hy).rb, (h y hy).n⟩
theorem leJ_rows {A B C : Nat} {rows : List Str} (h : ∀ r ∈ rows, RowS A B r) (hC : rows.length ≤ C) (hl : C * (A + 1) ≤ 16777216) : leJ (Str.ofString "\n") rows := leJ_of (n := C) (k := A) (by decide) hC (fun y hy => (h y hy).l) hl
theorem rows_le {A B C : Nat} {x : Str} (h : FtS A B C x) : (Txt.split x (Str.ofString "\n")).length ≤ C := by rw [split_n]; exact h.2
theorem tl_mul {x : Str} {n : Nat} (hn : 1 ≤ n) : TL.tl (Txt.mul x (n : Int)) = (List.replicate n (TL.tl x)).flatten := by
  have fold : ∀ (k : Nat) (a : Array Nat), ((List.replicate k x.cps).foldl (· ++ ·) a).toList = a.toList ++ (List.replicate k (TL.tl x)).flatten := fun k => by
    induction k with
    | zero => intro a; simp
    | succ k ih =>
      intro a
      rw [List.replicate_succ, List.foldl_cons, ih, List.replicate_succ, List.flatten_cons, Array.toList_append, List.append_assoc]
  unfold Txt.mul
  rw [if_neg (by omega)]
  split
  · rename_i h
    rw [Bool.or_eq_true] at h
    rcases h with h | h
    · have : n = 1 := by have := (beq_iff_eq.mp h); omega
      subst this
      simp
    · have : TL.tl x = [] := List.length_eq_zero_iff.mp (by rw [← wI_len]; exact beq_iff_eq.mp h)
      rw [this]
      simp
  · show ((List.replicate ((n : Int)).toNat x.cps).foldl (· ++ ·) #[]).toList = _
    rw [fold]
    simp
theorem mulOk {x : Str} {n : Nat} (h : x.length * n ≤ 5592405) (hn : n ≤ 100) : inT x (n : Int) := by
  unfold inT MulOk
  refine ⟨by simp; omega, fun h1 _ => ?_, fun h1 _ => ?_⟩
  · have : (x.length : Int) ≤ (2 ^ 63 - 1) / (n : Int) := Int.le_ediv_of_mul_le (by omega) (by
      have : ((x.length * n : Nat) : Int) ≤ 5592405 := by omega
      rw [Int.natCast_mul] at this
      omega)
    omega
  · have : x.length * ((n : Int)).toNat ≤ 5592405 := by simpa using h
    exact decide_eq_false (by have : sizeLine ≥ 5592405 := by decide +kernel
                              omega)
theorem joinL_cons2 {S r q : List Nat} {ps : List (List Nat)} : TL.joinL S (r :: q :: ps) = r ++ (S ++ TL.joinL S (q :: ps)) := joinL_cons (by simp)
theorem mul_rows {A B n : Nat} {y : Str} (h : RowS A B y) (hn : 1 ≤ n) : FtS A B (n + 1) (Txt.mul (y ++ Str.ofString "\n") (n : Int)) := by
  unfold FtS
  rw [tl_mul hn, TL.tl_append, tl_nl]
  have hr : ∀ k, RB A B (List.replicate k (TL.tl y ++ [10])).flatten := fun k => by
    induction k with
    | zero => exact (RB.short (k := 0) (by simp)).le (by omega) (by omega)
    | succ k ih =>
      rw [List.replicate_succ, List.flatten_cons, List.append_assoc]
      exact h.rb.sep ih
  refine ⟨hr n, ?_⟩
  have h0 := List.count_eq_zero_of_not_mem h.n
  have hc : ∀ k, ((List.replicate k (TL.tl y ++ [10])).flatten).count 10 = k := fun k => by
    induction k with
    | zero => rfl
    | succ k ih =>
      rw [List.replicate_succ, List.flatten_cons, List.count_append, List.count_append, h0, ih]
      simp
      omega
  rw [hc]
  exact Nat.le_refl _
theorem sev_tl {n : Nat} : (Txt.mul (Str.ofString "7") (n : Int)).length = n ∧ ∀ c ∈ TL.tl (Txt.mul (Str.ofString "7") (n : Int)), c = 55 := by
  have t7 : TL.tl (Str.ofString "7") = [55] := by decide
  cases n with
  | zero =>
    have : Txt.mul (Str.ofString "7") ((0 : Nat) : Int) = Str.empty := if_pos (by omega)
    rw [this]
    exact ⟨rfl, fun c hc => by cases hc⟩
  | succ n =>
    have hc : ∀ c ∈ TL.tl (Txt.mul (Str.ofString "7") ((n + 1 : Nat) : Int)), c = 55 := fun c hc => by
      rw [tl_mul (by omega), t7] at hc
      obtain ⟨l, hl, hc⟩ := List.mem_flatten.mp hc
      rw [(List.mem_replicate.mp hl).2] at hc
      simpa using hc
    refine ⟨?_, hc⟩
    rw [wI_len, tl_mul (by omega), t7]
    simp
theorem sevens_row {A B k : Nat} {y sv : Str} {g : Str → Str} (h : RowS A B y) (hs : sv.length ≤ k) (h7 : ∀ c ∈ TL.tl sv, c = 55) (hg : ∀ p, g p = p ∨ g p = p ++ sv) : RowS (A + k * (B + 1)) B (Txt.join (Str.ofString ">") ((Txt.split y (Str.ofString ">")).map g)) := by
  have e : TL.tl (Txt.join (Str.ofString ">") ((Txt.split y (Str.ofString ">")).map g)) = TL.joinL [62] ((Txt.split y (Str.ofString ">")).map fun p => TL.tl (g p)) := by
    rw [TL.join_eq, TL.tl_join, tl_gt, List.map_map]
    rfl
  have e2 := join_spl (c := 62) (TL.tl y) []
  rw [List.nil_append, ← spl_gtS] at e2
  have hm : ∀ p ∈ Txt.split y (Str.ofString ">"), TL.tl p <:+: TL.tl y ∧ 62 ∉ TL.tl p := fun p hp => by
    have := spl_mem (c := 62) (TL.tl y) [] (by simp) (TL.tl p) (by rw [← spl_gtS]; exact List.mem_map_of_mem hp)
    simpa using this
  have g62 : ∀ p ∈ Txt.split y (Str.ofString ">"), 62 ∉ TL.tl (g p) := fun p hp => by
    rcases hg p with q | q <;> rw [q]
    · exact (hm p hp).2
    · rw [TL.tl_append]
      exact fun z => (List.mem_append.mp z).elim (hm p hp).2 fun z => by have := h7 _ z; omega
  have g10 : ∀ p ∈ Txt.split y (Str.ofString ">"), 10 ∉ TL.tl (g p) := fun p hp => by
    have h1 : 10 ∉ TL.tl p := fun z => h.n ((hm p hp).1.mem z)
    rcases hg p with q | q <;> rw [q]
    · exact h1
    · rw [TL.tl_append]
      exact fun z => (List.mem_append.mp z).elim h1 fun z => by have := h7 _ z; omega
  have ln : (Txt.split y (Str.ofString ">")).length ≤ B + 1 := by rw [split_gt]; have := h.c; omega
  refine ⟨?_, ?_, ?_⟩
  · rw [wI_len, e]
    have hk : ∀ ps : List Str, (TL.joinL [62] (ps.map fun p => TL.tl (g p))).length ≤ (TL.joinL [62] (ps.map TL.tl)).length + k * ps.length := fun ps => by
      induction ps with
      | nil => simp [TL.joinL]
      | cons p ps ih =>
        have hp : (TL.tl (g p)).length ≤ (TL.tl p).length + k := by
          rcases hg p with q | q <;> rw [q]
          · omega
          · rw [TL.tl_append, List.length_append, ← wI_len sv]; omega
        cases ps with
        | nil => simp [TL.joinL]; omega
        | cons q ps =>
          simp only [List.map_cons] at ih ⊢
          rw [joinL_cons2, joinL_cons2]
          simp only [List.length_append, List.length_cons] at ih ⊢
          rw [Nat.mul_succ k (ps.length + 1)]
          omega
    have := hk (Txt.split y (Str.ofString ">"))
    rw [e2, ← wI_len] at this
    have l2 := Nat.mul_le_mul_left k ln
    have := h.l
    omega
  · rw [e]
    have := count_join (c := 62) (S := [62]) (by simp) (rows := (Txt.split y (Str.ofString ">")).map fun p => TL.tl (g p)) fun r hr => by
      obtain ⟨p, hp, rfl⟩ := List.mem_map.mp hr
      exact g62 p hp
    rw [List.length_map] at this
    omega
  · rw [e]
    intro z
    rcases mem_joinL z with z | ⟨p, hp, z⟩
    · simp at z
    · obtain ⟨q, hq, rfl⟩ := List.mem_map.mp hp
      exact g10 q hq z
theorem replL_row : ∀ (l : List Nat), (StrLaws.replL [62] [95, 49, 62] l).length = l.length + 2 * l.count 62 ∧ (StrLaws.replL [62] [95, 49, 62] l).count 62 = l.count 62 ∧ (10 ∉ l → 10 ∉ StrLaws.replL [62] [95, 49, 62] l)
  | [] => by rw [StrLaws.replL_nil]; simp
  | c :: l => by
    obtain ⟨h1, h2, h3⟩ := replL_row l
    by_cases e : c = 62
    · subst e
      have hit : StrLaws.replL [62] [95, 49, 62] (62 :: l) = [95, 49, 62] ++ StrLaws.replL [62] [95, 49, 62] l := StrLaws.replL_hit (by simp) (by simp)
      rw [hit]
      refine ⟨by simp [h1]; omega, by simp [h2], fun h => ?_⟩
      simp at h ⊢
      exact h3 h
    · have miss : StrLaws.replL [62] [95, 49, 62] (c :: l) = c :: StrLaws.replL [62] [95, 49, 62] l := StrLaws.replL_miss (by simp [e])
      rw [miss]
      refine ⟨by simp [h1, List.count_cons, e]; omega, by simp [h2, List.count_cons, e], fun h => ?_⟩
      simp at h ⊢
      exact ⟨h.1, h3 h.2⟩
theorem repl_row {A B : Nat} {y : Str} (h : RowS A B y) : RowS (A + 2 * B) B (Txt.replace y (Str.ofString ">") (Str.ofString "_1>")) := by
  have e : TL.tl (Txt.replace y (Str.ofString ">") (Str.ofString "_1>")) = StrLaws.replL [62] [95, 49, 62] (TL.tl y) := by
    have := StrLaws.replace_list (x := y) (y := Str.ofString ">") (z := Str.ofString "_1>") (by decide)
    exact this
  obtain ⟨h1, h2, h3⟩ := replL_row (TL.tl y)
  have hl := h.l
  have hc := h.c
  rw [wI_len] at hl
  exact ⟨by rw [wI_len, e, h1]; omega, by rw [e, h2]; exact hc, by rw [e]; exact h3 h.n⟩

end DL

noncomputable section
namespace DL
open PySem L2
def b_law_falling_v3_1 : DSt → Flow := fIfS (fB (fOp (lift2 neO) (fOp (lift2 inO) (fVar 5) (fVar 3)) (fOp (lift2 inO) (fVar 6) (fVar 3)))) (fDrop (fApp 4 (fOp (lift2 ixO) (fLst (fCons (fVar 5) (fCons (fVar 6) fNil))) (fCall intO (pCons (fOp (lift2 inO) (fVar 5) (fVar 3)) fNil))))) fnext
abbrev o_law_falling_v3_1 : List PyData → DSt → Flow := loopF (bTup 2 (bCons (bName 5) (bCons (bName 6) bNil))) b_law_falling_v3_1
def c_law_falling_v3_2 : M Bool := fB (fOp (lift2 ltO) (fCall lenO (pCons (fVar 3) fNil)) (fCall lenO (pCons (fVar 1) fNil)))
def b_law_falling_v3_3 : DSt → Flow := fseq (fSet 4 (fLst fNil)) (fseq (fFor (fLstI (fVar 2)) (bTup 2 (bCons (bName 5) (bCons (bName 6) bNil))) b_law_falling_v3_1) (fDrop (fApp 3 (fOp (lift2 ixO) (fVar 4) (fUser F_law_draw_v3 (fCons (fVar 0) (fCons (fCall lenO (pCons (fVar 4) fNil)) fNil)))))))
abbrev o_law_falling_v3_3 : DSt → Flow := whileF c_law_falling_v3_2 b_law_falling_v3_3 10000
def p_law_falling_v3 : DSt → Flow := fseq (fSet 3 (fLst (fCons (fOp (lift2 ixO) (fVar 1) (fUser F_law_draw_v3 (fCons (fVar 0) (fCons (fCall lenO (pCons (fVar 1) fNil)) fNil)))) fNil))) (fseq (whileF c_law_falling_v3_2 b_law_falling_v3_3 10000) (fRet (fVar 3)))
def F_law_falling_v3 : List R → Pw → FRes := runF 7 3 p_law_falling_v3
def b_law_folk_v14_1 : DSt → Flow := fseq (fSet 6 (fUser F_law_falling_v3 (fCons (fVar 0) (fCons (fVar 1) (fCons (fVar 2) fNil))))) (fseq (fIfS (fAnd (fB (fOp (lift2 eqO) (fVar 3) (fC (.int 2)))) (fAnd (fB (fOp (lift2 gtO) (fCall lenO (pCons (fVar 1) fNil)) (fC (.int 1)))) (fB (fOp (lift2 eqO) (fUser F_law_draw_v3 (fCons (fVar 0) (fCons (fC (.int 4)) fNil))) (fC (.int 0)))))) (fseq (fSet 7 (fUser F_law_draw_v3 (fCons (fVar 0) (fCons (fOp (lift2 subO) (fCall lenO (pCons (fVar 1) fNil)) (fC (.int 1))) fNil)))) (fSwap 6 (fTup (fCons (fOp (lift2 ixO) (fVar 6) (fOp (lift2 addO) (fVar 7) (fC (.int 1)))) (fCons (fOp (lift2 ixO) (fVar 6) (fVar 7)) fNil))) (fVar 7) (fOp (lift2 addO) (fVar 7) (fC (.int 1))))) fnext) (fseq (fIfS (fB (fOp (lift2 eqO) (fVar 3) (fC (.int 3)))) (fSet 6 (fUser F_law_shuffled_v3 (fCons (fVar 0) (fCons (fVar 1) fNil)))) fnext) (fseq (fIfS (fAnd (fB (fOp (lift2 neO) (fVar 4) (fLst fNil))) (fB (fOp (lift2 eqO) (fUser F_law_draw_v3 (fCons (fVar 0) (fCons (fC (.int 6)) fNil))) (fC (.int 0))))) (fSet 6 (fCall listO (pCons (fOp (lift2 ixO) (fVar 4) (fUser F_law_draw_v3 (fCons (fVar 0) (fCons (fCall lenO (pCons (fVar 4) fNil)) fNil)))) fNil))) fnext) (fDrop (fApp 4 (fVar 6))))))
abbrev o_law_folk_v14_1 : List PyData → DSt → Flow := loopF (bName 5) b_law_folk_v14_1
def p_law_folk_v14 : DSt → Flow := fseq (fSet 3 (fUser F_law_draw_v3 (fCons (fVar 0) (fCons (fC (.int 4)) fNil)))) (fseq (fSet 4 (fLst fNil)) (fseq (fFor (fRng1 (pCons (fOp (lift2 addO) (fC (.int 1)) (fUser F_law_draw_v3 (fCons (fVar 0) (fCons (fOp (lift2 ixO) (fLst (fCons (fC (.int 3)) (fCons (fC (.int 6)) (fCons (fC (.int 20)) fNil)))) (fUser F_law_draw_v3 (fCons (fVar 0) (fCons (fC (.int 3)) fNil)))) fNil)))) fNil)) (bName 5) b_law_folk_v14_1) (fRet (fVar 4))))
def F_law_folk_v14 : List R → Pw → FRes := runF 8 3 p_law_folk_v14
/-! what hangs together, said without lists; rankings drawn along a tree -/
def Conn (T : List (Int × Int)) (some : List Int) (x : Int) : Prop := ∀ F : Int → Prop, F x → (∀ p ∈ T, p.1 ∈ some → p.2 ∈ some → (F p.1 ↔ F p.2)) → ∀ y ∈ some, F y
/-! ### trees as they are made -/
theorem tieP_ends (a b : Int) : ((tieP a b).1 = a ∧ (tieP a b).2 = b) ∨ ((tieP a b).1 = b ∧ (tieP a b).2 = a) := by
  unfold tieP
  dsimp only
  omega
theorem tie_iff {F : Int → Prop} {a b : Int} (h : F (tieP a b).1 ↔ F (tieP a b).2) : F a ↔ F b := by
  rcases tieP_ends a b with ⟨e1, e2⟩ | ⟨e1, e2⟩ <;> rw [e1, e2] at h
  · exact h
  · exact h.symm
theorem genT_mem {N : List Int} {T : List (Int × Int)} (h : GenT N T) : ∃ (L : List Int) (f : Nat → Nat), L.Perm N ∧ (∀ k, 0 < k → k < L.length → f k < k) ∧ T.length = L.length - 1 ∧ ∀ p, p ∈ T ↔ ∃ k, 0 < k ∧ k < L.length ∧ p = tieP (L.getD k 0) (L.getD (f k) 0) := by
  obtain ⟨L, f, hp, hf, rfl⟩ := h
  refine ⟨L, f, hp, hf, by rw [(sortPr_perm _).length_eq, List.length_map, List.length_range'], fun p => ?_⟩
  rw [(sortPr_perm _).mem_iff, List.mem_map]
  constructor
  · rintro ⟨k, hk, rfl⟩
    rw [List.mem_range'_1] at hk
    exact ⟨k, by omega, by omega, rfl⟩
  · rintro ⟨k, h1, h2, rfl⟩
    exact ⟨k, by rw [List.mem_range'_1]; omega, rfl⟩
theorem genT_all {N : List Int} {T : List (Int × Int)} (h : GenT N T) {F : Int → Prop} (hF : ∀ p ∈ T, (F p.1 ↔ F p.2)) {x : Int} (hx : x ∈ N) (h1 : F x) : ∀ y ∈ N, F y := by
  obtain ⟨L, f, hp, hf, _, hm⟩ := genT_mem h
  have key : ∀ k, k < L.length → (F (L.getD k 0) ↔ F (L.getD 0 0)) := by
    intro k
    induction k using Nat.strongRecOn with
    | ind k ih =>
      intro hk
      by_cases z : k = 0
      · rw [z]
      · have hk0 : 0 < k := by omega
        have q := tie_iff (hF _ ((hm _).mpr ⟨k, hk0, hk, rfl⟩))
        exact q.trans (ih (f k) (hf k hk0 hk) (by have := hf k hk0 hk; omega))
  have at' : ∀ z ∈ N, ∃ k, k < L.length ∧ L.getD k 0 = z := fun z hz => by
    obtain ⟨k, hk, e⟩ := List.getElem_of_mem (hp.mem_iff.mpr hz)
    exact ⟨k, hk, by rw [List.getD_eq_getElem?_getD, List.getElem?_eq_getElem hk]; exact e⟩
  intro y hy
  obtain ⟨i, hi, ei⟩ := at' x hx
  obtain ⟨j, hj, ej⟩ := at' y hy
  have a := key i hi
  have b := key j hj
  rw [ei] at a
  rw [ej] at b
  exact b.mpr (a.mp h1)
theorem genT_in {N : List Int} {T : List (Int × Int)} (h : GenT N T) : ∀ p ∈ T, p.1 ∈ N ∧ p.2 ∈ N := by
  obtain ⟨L, f, hp, hf, _, hm⟩ := genT_mem h
  intro p q
  obtain ⟨k, h1, h2, rfl⟩ := (hm p).mp q
  have m : ∀ j, j < L.length → L.getD j 0 ∈ N := fun j hj => by
    rw [List.getD_eq_getElem?_getD, List.getElem?_eq_getElem hj]
    exact hp.mem_iff.mp (List.getElem_mem hj)
  have m1 := m k h2
  have m2 := m (f k) (by have := hf k h1 h2; omega)
  rcases tieP_ends (L.getD k 0) (L.getD (f k) 0) with ⟨e1, e2⟩ | ⟨e1, e2⟩ <;> rw [e1, e2]
  · exact ⟨m1, m2⟩
  · exact ⟨m2, m1⟩
/-! ### rankings that fall -/
def Fal (T : List (Int × Int)) (r : List Int) : Prop := ∀ k, 0 < k → k < r.length → ∃ j, j < k ∧ tieP (r.getD j 0) (r.getD k 0) ∈ T
theorem getD_app {l m : List Int} {i : Nat} (h : i < l.length) : (l ++ m).getD i 0 = l.getD i 0 := by
  rw [List.getD_eq_getElem?_getD, List.getD_eq_getElem?_getD, List.getElem?_append_left h]
theorem fal_snoc {T : List (Int × Int)} {r : List Int} {y : Int} (h : Fal T r) (hy : ∃ x ∈ r, tieP x y ∈ T) : Fal T (r ++ [y]) := by
  intro k h0 hk
  rw [List.length_append, List.length_singleton] at hk
  by_cases z : k < r.length
  · obtain ⟨j, hj, m⟩ := h k h0 z
    refine ⟨j, hj, ?_⟩
    rw [getD_app (by omega), getD_app z]
    exact m
  · have : k = r.length := by omega
    subst this
    obtain ⟨x, hx, m⟩ := hy
    obtain ⟨j, hj, e⟩ := List.getElem_of_mem hx
    refine ⟨j, hj, ?_⟩
    have e1 : (r ++ [y]).getD r.length 0 = y := by simp [List.getD_eq_getElem?_getD]
    have e2 : (r ++ [y]).getD j 0 = x := by rw [getD_app hj, List.getD_eq_getElem?_getD, List.getElem?_eq_getElem hj]; exact e
    rw [e1, e2]
    exact m
def nearL (found : List Int) (T : List (Int × Int)) : List Int := (T.filter fun p => decide (¬ (p.1 ∈ found ↔ p.2 ∈ found))).map fun p => if p.1 ∈ found then p.2 else p.1
theorem mem_near {found : List Int} {T : List (Int × Int)} {y : Int} (ht : ∀ p ∈ T, p.1 < p.2) (h : y ∈ nearL found T) : y ∉ found ∧ (∃ x ∈ found, tieP x y ∈ T) ∧ ∃ p ∈ T, y = p.1 ∨ y = p.2 := by
  obtain ⟨p, hp, rfl⟩ := List.mem_map.mp h
  obtain ⟨hp, hc⟩ := List.mem_filter.mp hp
  have hc := of_decide_eq_true hc
  have hl := ht p hp
  by_cases z : p.1 ∈ found
  · rw [if_pos z]
    have z2 : p.2 ∉ found := fun q => hc ⟨fun _ => q, fun _ => z⟩
    refine ⟨z2, ⟨p.1, z, ?_⟩, p, hp, .inr rfl⟩
    have : tieP p.1 p.2 = p := by unfold tieP; rw [Int.min_eq_left (by omega), Int.max_eq_right (by omega)]
    rw [this]; exact hp
  · rw [if_neg z]
    have z2 : p.2 ∈ found := Classical.byContradiction fun q => hc ⟨fun a => (z a).elim, fun a => (q a).elim⟩
    refine ⟨z, ⟨p.2, z2, ?_⟩, p, hp, .inl rfl⟩
    have : tieP p.2 p.1 = p := by unfold tieP; rw [Int.min_eq_right (by omega), Int.max_eq_left (by omega)]
    rw [this]; exact hp
theorem near_pos {N found : List Int} {T : List (Int × Int)} (h : GenT N T) {x y : Int} (hx : x ∈ found) (hN : ∀ z ∈ found, z ∈ N) (hy : y ∈ N) (hy2 : y ∉ found) : 0 < (nearL found T).length := by
  refine Classical.byContradiction fun c => hy2 ?_
  have e : nearL found T = [] := List.length_eq_zero_iff.mp (by omega)
  have e := List.filter_eq_nil_iff.mp (List.map_eq_nil_iff.mp e)
  refine genT_all h (F := fun z => z ∈ found) (fun p hp => ?_) (hN x hx) hx y hy
  have := e p hp
  simpa using this
theorem genT_lt {N : List Int} {T : List (Int × Int)} (hN : N.Nodup) (h : GenT N T) : ∀ p ∈ T, p.1 < p.2 := by
  obtain ⟨L, f, hp, hf, _, hm⟩ := genT_mem h
  intro p q
  obtain ⟨k, h1, h2, rfl⟩ := (hm p).mp q
  have h3 := hf k h1 h2
  have nl : L.Nodup := hp.nodup_iff.mpr hN
  have ne : L.getD k 0 ≠ L.getD (f k) 0 := by
    rw [List.getD_eq_getElem?_getD, List.getD_eq_getElem?_getD, List.getElem?_eq_getElem h2, List.getElem?_eq_getElem (show f k < L.length by omega)]
    intro e
    have := (List.getElem_inj nl).mp (show L[k] = L[f k] from e)
    omega
  unfold tieP
  dsimp only
  omega
theorem draw_atC {pa : Addr} {w : Pw} {m : Int} {α : Type} {xs : List α} (h : LP pa w m) (hm : m < 2 ^ 37) (h0 : 0 < xs.length) (h1 : xs.length ≤ 1000) : ∃ (i : Nat) (x : α) (w' : Pw), F_law_draw_v3 [.raw (.ref pa), .val (.int ((xs.length : Nat) : Int))] w = .ok (.val (.int ((i : Nat) : Int))) w' ∧ i < xs.length ∧ xs[i]? = some x ∧ x ∈ xs ∧ LP pa w' (m + 1) := by
  obtain ⟨r, w', e, r0, r1, q⟩ := draw2_ok (b := (xs.length : Int)) h (by omega) (by omega) (by omega)
  obtain ⟨i, rfl⟩ := Int.eq_ofNat_of_zero_le r0
  have hi : i < xs.length := by omega
  exact ⟨i, xs[i], w', e, hi, List.getElem?_eq_getElem hi, List.getElem_mem hi, q⟩
theorem perm_of_sub {l m : List Int} (hl : l.Nodup) (hs : ∀ x ∈ l, x ∈ m) (h : m.length ≤ l.length) : l.Perm m := by
  induction l generalizing m with
  | nil =>
    have : m = [] := List.length_eq_zero_iff.mp (by simpa using h)
    rw [this]
  | cons x l ih =>
    have hx := hs x List.mem_cons_self
    obtain ⟨nx, nl⟩ := List.nodup_cons.mp hl
    have p := List.perm_cons_erase hx
    refine (List.Perm.cons x (ih nl (fun y hy => ?_) ?_)).trans p.symm
    · refine (List.mem_erase_of_ne fun e => ?_).mpr (hs y (List.mem_cons_of_mem _ hy))
      subst e
      exact nx hy
    · have := p.length_eq
      simp at this h
      omega
/-! ### the walks -/
theorem near_step {pa : Addr} {N found : List Int} {T : List (Int × Int)} {near : List Int} {p : Int × Int} {w : Pw} {s5 s6 : Sl} (hl : near.length ≤ 1000) : bod (bTup 2 (bCons (bName 5) (bCons (bName 6) bNil))) b_law_falling_v3_1 (prT p) ⟨[.raw (.ref pa), .val (.list ((N).map .int)), .val (.list ((T).map prT)), .own (found.map .int), .own (near.map .int), s5, s6], w⟩ = .next ⟨[.raw (.ref pa), .val (.list ((N).map .int)), .val (.list ((T).map prT)), .own (found.map .int), .own ((near ++ nearL found [p]).map .int), .val (.int (p.1)), .val (.int (p.2))], w⟩ := by
  obtain ⟨a, b⟩ := p
  have lt : ltS near.length := size_lt (by omega)
  unfold b_law_falling_v3_1 nearL
  by_cases h1 : a ∈ found <;> by_cases h2 : b ∈ found <;> simp -implicitDefEqProofs [prT, h1, h2, lt]
theorem nearL_app {found : List Int} {S T : List (Int × Int)} : nearL found (S ++ T) = nearL found S ++ nearL found T := by
  unfold nearL
  rw [List.filter_append, List.map_append]
theorem nearL_len {found : List Int} {T : List (Int × Int)} : (nearL found T).length ≤ T.length := by
  unfold nearL
  rw [List.length_map]
  exact List.length_filter_le _ _
theorem near_ok {pa : Addr} {N found : List Int} {T : List (Int × Int)} {w : Pw} {s5 s6 : Sl} (hl : T.length ≤ 1000) : ∃ t5 t6, loopF (bTup 2 (bCons (bName 5) (bCons (bName 6) bNil))) b_law_falling_v3_1 (T.map prT) ⟨[.raw (.ref pa), .val (.list ((N).map .int)), .val (.list ((T).map prT)), .own (found.map .int), .own [], s5, s6], w⟩ = .next ⟨[.raw (.ref pa), .val (.list ((N).map .int)), .val (.list ((T).map prT)), .own (found.map .int), .own ((nearL found T).map .int), t5, t6], w⟩ := by
  obtain ⟨s', e, t5, t6, rfl⟩ := loopN (b := bTup 2 (bCons (bName 5) (bCons (bName 6) bNil))) (p := b_law_falling_v3_1) (f := prT) (l := T) (s := ⟨[.raw (.ref pa), .val (.list ((N).map .int)), .val (.list ((T).map prT)), .own (found.map .int), .own [], s5, s6], w⟩)
    (fun i s => ∃ t5 t6, s = ⟨[.raw (.ref pa), .val (.list ((N).map .int)), .val (.list ((T).map prT)), .own (found.map .int), .own ((nearL found (T.take i)).map .int), t5, t6], w⟩) ⟨_, _, rfl⟩ (by
      rintro i p s hi hp ⟨t5, t6, rfl⟩
      have ll := nearL_len (found := found) (T := T.take i)
      rw [List.length_take] at ll
      rw [near_step (by omega), take_succ hi, nearL_app]
      exact ⟨_, rfl, _, _, rfl⟩)
  rw [List.take_length] at e
  exact ⟨t5, t6, e⟩
theorem falling_ok {pa : Addr} {w : Pw} {m : Int} {N : List Int} {T : List (Int × Int)} (h : LP pa w m) (hm : m < 2 ^ 36) (hN : N.Nodup) (h0 : 0 < N.length) (h10 : N.length ≤ 100) (hT : GenT N T) : ∃ (r : List Int) (w' : Pw), F_law_falling_v3 [.raw (.ref pa), .val (.list ((N).map .int)), .val (.list ((T).map prT))] w = .ok (.new (r.map .int)) w' ∧ r.Perm N ∧ Fal T r ∧ LP pa w' (m + 200) := by
  have lT : T.length ≤ 100 := by
    obtain ⟨L, f, hp, _, e, _⟩ := genT_mem hT
    have := hp.length_eq
    omega
  have lt := genT_lt hN hT
  obtain ⟨i, x, w1, e1, hi, ex, mx, q1⟩ := draw_atC (xs := N) h (by omega) h0 (by omega)
  have ax : atI (N.map PyData.int) (i : Int) = some (.int x) := by rw [atI_mapF, atI_nat, ex]; rfl
  obtain ⟨s', e, ⟨r, w', s4, s5, s6, ⟨r0, rn, rs, rf, rq⟩, rfl⟩, hc⟩ := whileF_inv (c := c_law_falling_v3_2) (p := b_law_falling_v3_3) (s := ⟨[.raw (.ref pa), .val (.list ((N).map .int)), .val (.list ((T).map prT)), .own [.int x], .no, .no, .no], w1⟩)
    (fun s => ∃ (r : List Int) (w' : Pw) (s4 s5 s6 : Sl), (0 < r.length ∧ r.Nodup ∧ (∀ z ∈ r, z ∈ N) ∧ Fal T r ∧ LP pa w' (m + r.length)) ∧ s = ⟨[.raw (.ref pa), .val (.list ((N).map .int)), .val (.list ((T).map prT)), .own (r.map .int), s4, s5, s6], w'⟩)
    (fun s => 1000 - (match s.d with | [_, _, _, .own ds, _, _, _] => ds.length | _ => 0)) 10000 ⟨[x], w1, .no, .no, .no, ⟨by simp, by simp, fun z hz => by rw [List.mem_singleton] at hz; rw [hz]; exact mx, fun k k0 k1 => by simp at k1; omega, by simpa using q1⟩, rfl⟩ (by simp) (by
      rintro s ⟨r, w2, s4, s5, s6, ⟨r0, rn, rs, rf, rq⟩, rfl⟩
      have ll := List.Nodup.length_le_of_subset rn rs
      by_cases q : r.length < N.length
      · refine .inl ⟨_, by unfold c_law_falling_v3_2; simp -implicitDefEqProofs [q]; rfl, ?_⟩
        obtain ⟨t5, t6, ep⟩ := near_ok (pa := pa) (N := N) (found := r) (T := T) (w := w2) (s5 := s5) (s6 := s6) (by omega)
        obtain ⟨y, hy, hy2⟩ : ∃ y ∈ N, y ∉ r := Classical.byContradiction fun c => by
          have := List.Nodup.length_le_of_subset hN (fun z hz => Classical.byContradiction fun c2 => c ⟨z, hz, c2⟩ : ∀ z ∈ N, z ∈ r)
          omega
        obtain ⟨x0, hx0⟩ : ∃ x0, x0 ∈ r := ⟨r[0], List.getElem_mem r0⟩
        have np := near_pos hT hx0 rs hy hy2
        have nl := nearL_len (found := r) (T := T)
        obtain ⟨j, z, w3, e3, hj, ez, mz, q3⟩ := draw_atC (xs := nearL r T) rq (by omega) np (by omega)
        obtain ⟨mz1, mz2, ⟨p, hp, hz⟩⟩ := mem_near lt mz
        have az : atI ((nearL r T).map PyData.int) (j : Int) = some (.int z) := by rw [atI_mapF, atI_nat, ez]; rfl
        have mzN : z ∈ N := by
          have := genT_in hT p hp
          rcases hz with e | e <;> rw [e]
          · exact this.1
          · exact this.2
        obtain ⟨M, hM⟩ : ∃ M, M = nearL r T := ⟨_, rfl⟩
        rw [← hM] at ep e3 az
        have ltS1 : ltS r.length := size_lt (by omega)
        have em : r.map PyData.int ++ [.int z] = (r ++ [z]).map .int := by simp
        refine ⟨⟨[.raw (.ref pa), .val (.list ((N).map .int)), .val (.list ((T).map prT)), .own ((r ++ [z]).map .int), .own (M.map .int), t5, t6], w3⟩, ?_, ⟨r ++ [z], w3, _, t5, t6, ⟨by simp, ?_, ?_, fal_snoc rf mz2, by rw [List.length_append, List.length_singleton]; exact q3.mono (by omega)⟩, rfl⟩, ?_⟩
        · unfold b_law_falling_v3_3
          simp -implicitDefEqProofs [ep, e3, az, ltS1, em, -List.map_append, -map_int_inj]
        · rw [List.nodup_append]
          exact ⟨rn, by simp, fun a ha b hb e => by rw [List.mem_singleton] at hb; subst hb; subst e; exact mz1 ha⟩
        · intro u hu
          rcases List.mem_append.mp hu with hu | hu
          · exact rs u hu
          · rw [List.mem_singleton] at hu; rw [hu]; exact mzN
        · show 1000 - ((r ++ [z]).map PyData.int).length < 1000 - (r.map PyData.int).length
          rw [List.length_map, List.length_map, List.length_append, List.length_singleton]
          omega
      · exact .inr (by unfold c_law_falling_v3_2; simp -implicitDefEqProofs [q]))
  have q : ¬ r.length < N.length := by
    intro q
    unfold c_law_falling_v3_2 at hc
    simp -implicitDefEqProofs [q] at hc
  have ll := List.Nodup.length_le_of_subset rn rs
  refine ⟨r, w', ?_, perm_of_sub rn rs (by omega), rf, rq.mono (by omega)⟩
  have s1 : leS 1 := size_le (by omega)
  unfold F_law_falling_v3 p_law_falling_v3
  simp only [x_runF]
  simp -implicitDefEqProofs [e1, ax, s1, e]
theorem draw_lit {pa : Addr} {w : Pw} {m b : Int} (h : LP pa w m) (b0 : 0 < b) (b1 : b < 2 ^ 100) (hm : m < 2 ^ 37) : ∃ (r : Nat) (w' : Pw), F_law_draw_v3 [.raw (.ref pa), .val (.int (b))] w = .ok (.val (.int ((r : Nat) : Int))) w' ∧ (r : Int) < b ∧ LP pa w' (m + 1) := by
  obtain ⟨r, w', e, r0, r1, q⟩ := draw2_ok h b0 b1 (by omega)
  obtain ⟨r, rfl⟩ := Int.eq_ofNat_of_zero_le r0
  exact ⟨r, w', e, r1, q⟩
theorem swap_permC {r : List Int} {k : Nat} (h : k + 1 < r.length) : ((r.set k r[k+1]).set (k + 1) r[k]).Perm r := by
  have e : (r.set k r[k+1]).set (k + 1) r[k] = r.take k ++ r[k+1] :: r[k] :: r.drop (k + 2) := by
    apply List.ext_getElem?
    intro i
    by_cases h1 : i < k
    · rw [List.getElem?_set_ne (by omega), List.getElem?_set_ne (by omega), List.getElem?_append_left (by rw [List.length_take]; omega), List.getElem?_take_of_lt h1]
    · rw [List.getElem?_append_right (by rw [List.length_take]; omega), List.length_take, Nat.min_eq_left (by omega)]
      by_cases h2 : i = k
      · subst h2
        rw [List.getElem?_set_ne (by omega), List.getElem?_set_self (by omega), Nat.sub_self]
        rfl
      · by_cases h3 : i = k + 1
        · subst h3
          rw [List.getElem?_set_self (by rw [List.length_set]; omega), show k + 1 - k = 1 by omega]
          rfl
        · rw [List.getElem?_set_ne (by omega), List.getElem?_set_ne (by omega), show i - k = (i - (k + 2)) + 2 by omega]
          simp only [List.getElem?_cons_succ, List.getElem?_drop]
          congr 1
          omega
  rw [e]
  have e2 : r = r.take k ++ r[k] :: r[k+1] :: r.drop (k + 2) := by
    have h1 := List.drop_eq_getElem_cons (show k < r.length by omega)
    have h2 := List.drop_eq_getElem_cons h
    rw [← h2, ← h1, List.take_append_drop]
  conv => rhs; rw [e2]
  exact List.Perm.append_left _ (List.Perm.swap _ _ _)
theorem folk14_ok {pa : Addr} {w : Pw} {m : Int} {N : List Int} {T : List (Int × Int)} (h : LP pa w m) (hm : m < 2 ^ 35) (hN : N.Nodup) (h0 : 0 < N.length) (h10 : N.length ≤ 100) (hT : GenT N T) : ∃ (f : List (List Int)) (w' : Pw), F_law_folk_v14 [.raw (.ref pa), .val (.list ((N).map .int)), .val (.list ((T).map prT))] w = .ok (.new (f.map llD)) w' ∧ 0 < f.length ∧ f.length ≤ 20 ∧ (∀ r ∈ f, r.Perm N) ∧ LP pa w' (m + 100000) := by
  obtain ⟨way, w1, e1, y1, q1⟩ := draw_lit (b := 4) h (by omega) (by omega) (by omega)
  obtain ⟨c, w2, e2, c1, q2⟩ := draw_lit (b := 3) q1 (by omega) (by omega) (by omega)
  obtain ⟨b, eb, b0, b1⟩ : ∃ b : Int, atI [PyData.int 3, .int 6, .int 20] (c : Int) = some (.int b) ∧ 0 < b ∧ b ≤ 20 := by
    have : c = 0 ∨ c = 1 ∨ c = 2 := by omega
    rcases this with q | q | q <;> rw [q]
    · exact ⟨3, rfl, by omega, by omega⟩
    · exact ⟨6, rfl, by omega, by omega⟩
    · exact ⟨20, rfl, by omega, by omega⟩
  obtain ⟨n, w3, e3, n1, q3⟩ := draw_lit (b := b) q2 (by omega) (by omega) (by omega)
  obtain ⟨s', e, f, w', s5, s6, s7, ⟨lf, pf⟩, qf, rfl⟩ := loopN (b := bName 5) (p := b_law_folk_v14_1) (f := fun k : Nat => PyData.int (0 + (k : Int))) (l := List.range (1 + n)) (s := ⟨[.raw (.ref pa), .val (.list ((N).map .int)), .val (.list ((T).map prT)), .val (.int ((way : Nat) : Int)), .own [], .no, .no, .no], w3⟩)
    (fun i s => ∃ (f : List (List Int)) (w' : Pw) (s5 s6 s7 : Sl), (f.length = i ∧ ∀ r ∈ f, r.Perm N) ∧ LP pa w' (m + 10 + 2000 * i) ∧ s = ⟨[.raw (.ref pa), .val (.list ((N).map .int)), .val (.list ((T).map prT)), .val (.int ((way : Nat) : Int)), .own (f.map llD), s5, s6, s7], w'⟩) ⟨[], w3, _, _, _, ⟨rfl, by simp⟩, q3.mono (by omega), rfl⟩ (by
      rintro i k s hi hk ⟨f, w4, s5, s6, s7, ⟨lf, pf⟩, qf, rfl⟩
      obtain ⟨rfl, hkn⟩ := range_at hi
      have k20 : k < 21 := by omega
      obtain ⟨r, w5, e5, pr, _, q5⟩ := falling_ok qf (by omega) hN h0 h10 hT
      have lr := pr.length_eq
      -- two neighbours
      obtain ⟨r2, w6, s7', e6, pr2, q6⟩ : ∃ (r2 : List Int) (w6 : Pw) (s7' : Sl), (fIfS (fAnd (fB (fOp (lift2 eqO) (fVar 3) (fC (.int 2)))) (fAnd (fB (fOp (lift2 gtO) (fCall lenO (pCons (fVar 1) fNil)) (fC (.int 1)))) (fB (fOp (lift2 eqO) (fUser F_law_draw_v3 (fCons (fVar 0) (fCons (fC (.int 4)) fNil))) (fC (.int 0)))))) (fseq (fSet 7 (fUser F_law_draw_v3 (fCons (fVar 0) (fCons (fOp (lift2 subO) (fCall lenO (pCons (fVar 1) fNil)) (fC (.int 1))) fNil)))) (fSwap 6 (fTup (fCons (fOp (lift2 ixO) (fVar 6) (fOp (lift2 addO) (fVar 7) (fC (.int 1)))) (fCons (fOp (lift2 ixO) (fVar 6) (fVar 7)) fNil))) (fVar 7) (fOp (lift2 addO) (fVar 7) (fC (.int 1))))) fnext) ⟨[.raw (.ref pa), .val (.list ((N).map .int)), .val (.list ((T).map prT)), .val (.int ((way : Nat) : Int)), .own (f.map llD), .val (.int (0 + (k : Int))), .own (r.map .int), s7], w5⟩ = .next ⟨[.raw (.ref pa), .val (.list ((N).map .int)), .val (.list ((T).map prT)), .val (.int ((way : Nat) : Int)), .own (f.map llD), .val (.int (0 + (k : Int))), .own (r2.map .int), s7'], w6⟩ ∧ r2.Perm N ∧ LP pa w6 (m + 10 + 2000 * k + 210) := by
        by_cases c1 : way = 2 ∧ 1 < N.length
        · obtain ⟨c1, c2⟩ := c1
          obtain ⟨x, w6, e6, x1, q6⟩ := draw_lit (b := 4) q5 (by omega) (by omega) (by omega)
          by_cases c3 : x = 0
          · obtain ⟨j, w7, e7, j1, q7⟩ := draw_lit (b := (N.length : Int) - 1) q6 (by omega) (by omega) (by omega)
            have hj : j + 1 < r.length := by omega
            refine ⟨(r.set j r[j+1]).set (j + 1) r[j], w7, .val (.int ((j : Nat) : Int)), ?_, (swap_permC hj).trans pr, q7.mono (by omega)⟩
            have a1 : atI (r.map PyData.int) ((j : Int) + 1) = some (.int r[j+1]) := by
              rw [show ((j : Int) + 1) = ((j + 1 : Nat) : Int) by omega, atI_nat, List.getElem?_map, List.getElem?_eq_getElem hj]; rfl
            have a2 : atI (r.map PyData.int) (j : Int) = some (.int r[j]) := by
              rw [atI_nat, List.getElem?_map, List.getElem?_eq_getElem (show j < r.length by omega)]; rfl
            have i1 : ixN r.length (j : Int) = some j := ixN_in (by omega)
            have i2 : ixN r.length ((j : Int) + 1) = some (j + 1) := by rw [show ((j : Int) + 1) = ((j + 1 : Nat) : Int) by omega]; exact ixN_in hj
            have s2 : leS 2 := size_le (by omega)
            have em : ((r.map PyData.int).set j (.int r[j+1])).set (j + 1) (.int r[j]) = ((r.set j r[j+1]).set (j + 1) r[j]).map .int := by rw [List.map_set, List.map_set]
            have c2' : ((1 : Int) < (N.length : Int)) = True := eq_true (by omega)
            obtain ⟨u, hu⟩ : ∃ u, u = r[j+1] := ⟨_, rfl⟩
            obtain ⟨v, hv⟩ : ∃ v, v = r[j] := ⟨_, rfl⟩
            rw [← hu] at a1 em
            rw [← hv] at a2 em
            rw [← hu, ← hv]
            subst c1 c3
            simp -implicitDefEqProofs [c2', e6, e7, a1, a2, i1, i2, s2, em, -List.map_set]
          · refine ⟨r, w6, s7, ?_, pr, q6.mono (by omega)⟩
            have c2' : ((1 : Int) < (N.length : Int)) = True := eq_true (by omega)
            have c3' : ((x : Int) = 0) = False := eq_false (by omega)
            subst c1
            simp -implicitDefEqProofs [c2', e6, c3]
        · refine ⟨r, w5, s7, ?_, pr, q5.mono (by omega)⟩
          by_cases c2 : way = 2
          · have c3 : ((1 : Int) < (N.length : Int)) = False := eq_false (by omega)
            subst c2
            simp -implicitDefEqProofs [c3]
          · have c3 : ((way : Int) = 2) = False := eq_false (by omega)
            simp -implicitDefEqProofs [c3]
      -- any
      obtain ⟨r3, w7, e7, pr3, q7⟩ : ∃ (r3 : List Int) (w7 : Pw), (fIfS (fB (fOp (lift2 eqO) (fVar 3) (fC (.int 3)))) (fSet 6 (fUser F_law_shuffled_v3 (fCons (fVar 0) (fCons (fVar 1) fNil)))) fnext) ⟨[.raw (.ref pa), .val (.list ((N).map .int)), .val (.list ((T).map prT)), .val (.int ((way : Nat) : Int)), .own (f.map llD), .val (.int (0 + (k : Int))), .own (r2.map .int), s7'], w6⟩ = .next ⟨[.raw (.ref pa), .val (.list ((N).map .int)), .val (.list ((T).map prT)), .val (.int ((way : Nat) : Int)), .own (f.map llD), .val (.int (0 + (k : Int))), .own (r3.map .int), s7'], w7⟩ ∧ r3.Perm N ∧ LP pa w7 (m + 10 + 2000 * k + 1300) := by
        by_cases c1 : way = 3
        · obtain ⟨r3, w7, e7, p3, q7⟩ := shuffled3_ok (N := N) q6 (by omega) (by omega)
          refine ⟨r3, w7, ?_, p3, q7.mono (by omega)⟩
          subst c1
          simp -implicitDefEqProofs [e7]
        · have c3 : ((way : Int) = 3) = False := eq_false (by omega)
          exact ⟨r2, w6, by simp -implicitDefEqProofs [c3], pr2, q6.mono (by omega)⟩
      obtain ⟨r4, w8, e8, pr4, q8⟩ : ∃ (r4 : List Int) (w8 : Pw), (fIfS (fAnd (fB (fOp (lift2 neO) (fVar 4) (fLst fNil))) (fB (fOp (lift2 eqO) (fUser F_law_draw_v3 (fCons (fVar 0) (fCons (fC (.int 6)) fNil))) (fC (.int 0))))) (fSet 6 (fCall listO (pCons (fOp (lift2 ixO) (fVar 4) (fUser F_law_draw_v3 (fCons (fVar 0) (fCons (fCall lenO (pCons (fVar 4) fNil)) fNil)))) fNil))) fnext) ⟨[.raw (.ref pa), .val (.list ((N).map .int)), .val (.list ((T).map prT)), .val (.int ((way : Nat) : Int)), .own (f.map llD), .val (.int (0 + (k : Int))), .own (r3.map .int), s7'], w7⟩ = .next ⟨[.raw (.ref pa), .val (.list ((N).map .int)), .val (.list ((T).map prT)), .val (.int ((way : Nat) : Int)), .own (f.map llD), .val (.int (0 + (k : Int))), .own (r4.map .int), s7'], w8⟩ ∧ r4.Perm N ∧ LP pa w8 (m + 10 + 2000 * ((k + 1 : Nat) : Int)) := by
        by_cases c1 : f = []
        · subst c1
          exact ⟨r3, w7, by simp -implicitDefEqProofs, pr3, q7.mono (by omega)⟩
        · have f0 : 0 < f.length := List.length_pos_iff.mpr c1
          have nf : (f.map llD).isEmpty = false := by
            rw [Bool.eq_false_iff]
            intro z
            rw [List.isEmpty_iff, List.map_eq_nil_iff] at z
            exact c1 z
          obtain ⟨x, w8, e8, x1, q8⟩ := draw_lit (b := 6) q7 (by omega) (by omega) (by omega)
          by_cases c3 : x = 0
          · obtain ⟨j, r4, w9, e9, j1, j2, m4, q9⟩ := draw_atC (xs := f) q8 (by omega) f0 (by omega)
            have aj : atI (f.map llD) (j : Int) = some (llD r4) := by rw [atI_mapF, atI_nat, j2]; rfl
            refine ⟨r4, w9, ?_, pf r4 m4, q9.mono (by omega)⟩
            have el : listO [llD r4] = some (.new (r4.map .int)) := rfl
            have lm : ((f.map llD).length : Int) = (f.length : Int) := by rw [List.length_map]
            obtain ⟨M, hM⟩ : ∃ M, M = f.map llD := ⟨_, rfl⟩
            rw [← hM] at aj nf lm ⊢
            subst c3
            simp -implicitDefEqProofs [nf, e8, lm, e9, aj, el]
          · have c3' : ((x : Int) = 0) = False := eq_false (by omega)
            exact ⟨r3, w8, by simp -implicitDefEqProofs [nf, e8, c3], pr3, q8.mono (by omega)⟩
      have lt : ltS f.length := size_lt (by omega)
      have ap : ∀ r : List Int, esc (.slot 6) ⟨[.raw (.ref pa), .val (.list ((N).map .int)), .val (.list ((T).map prT)), .val (.int ((way : Nat) : Int)), .own (f.map llD), .val (.int (0 + (k : Int))), .own (r.map .int), s7'], w8⟩ = some (.val (llD r), ⟨[.raw (.ref pa), .val (.list ((N).map .int)), .val (.list ((T).map prT)), .val (.int ((way : Nat) : Int)), .own (f.map llD), .val (.int (0 + (k : Int))), .val (llD r), s7'], w8⟩) := fun r => rfl
      have em : f.map llD ++ [PyData.list (r4.map .int)] = (f ++ [r4]).map llD := by rw [List.map_append]; rfl
      refine ⟨⟨[.raw (.ref pa), .val (.list ((N).map .int)), .val (.list ((T).map prT)), .val (.int ((way : Nat) : Int)), .own ((f ++ [r4]).map llD), .val (.int (0 + (k : Int))), .val (llD r4), s7'], w8⟩, ?_, f ++ [r4], w8, _, _, _, ⟨by simp [lf], fun r hr => ?_⟩, q8, rfl⟩
      · simp only [x_bod, x_bName, List.length_cons, List.length_nil]
        rw [if_pos (by omega)]
        show b_law_folk_v14_1 ⟨[.raw (.ref pa), .val (.list ((N).map .int)), .val (.list ((T).map prT)), .val (.int ((way : Nat) : Int)), .own (f.map llD), .val (.int (0 + (k : Int))), s6, s7], w4⟩ = _
        have e5' : (fSet 6 (fUser F_law_falling_v3 (fCons (fVar 0) (fCons (fVar 1) (fCons (fVar 2) fNil))))) ⟨[.raw (.ref pa), .val (.list ((N).map .int)), .val (.list ((T).map prT)), .val (.int ((way : Nat) : Int)), .own (f.map llD), .val (.int (0 + (k : Int))), s6, s7], w4⟩ = .next ⟨[.raw (.ref pa), .val (.list ((N).map .int)), .val (.list ((T).map prT)), .val (.int ((way : Nat) : Int)), .own (f.map llD), .val (.int (0 + (k : Int))), .own (r.map .int), s7], w5⟩ := by simp -implicitDefEqProofs [e5]
        unfold b_law_folk_v14_1
        simp only [fseq, e5', e6, e7, e8, at_next]
        simp -implicitDefEqProofs [lt, em, -List.map_append, llD]
      · rcases List.mem_append.mp hr with hr | hr
        · exact pf r hr
        · rw [List.mem_singleton] at hr; rw [hr]; exact pr4)
  have hB : inB ((1 : Int) + n) := inB_of (by omega) (by omega)
  have et : ((1 : Int) + (n : Int)).toNat = 1 + n := by omega
  rw [List.length_range] at lf qf
  have e' : loopF (bName 5) b_law_folk_v14_1 (rangeD 0 (1 + n)) ⟨[.raw (.ref pa), .val (.list ((N).map .int)), .val (.list ((T).map prT)), .val (.int ((way : Nat) : Int)), .own [], .no, .no, .no], w3⟩ = _ := e
  have s3 : leS 3 := size_le (by omega)
  have s0 : leS 0 := size_le (by omega)
  refine ⟨f, w', ?_, by omega, by omega, pf, qf.mono (by omega)⟩
  unfold F_law_folk_v14 p_law_folk_v14
  simp only [x_runF]
  simp -implicitDefEqProofs [e1, e2, eb, e3, hB, et, e', s3, s0]

end DL

noncomputable section
namespace DL
open PySem L2
def e_law_bent_v16_1 : M R := fOp (lift2 addO) (fC (.str "0")) (fVar 11)
abbrev l_law_bent_v16_1 : M R := fLc (fLstI (fSlice (fVar 6) fNoPart (fPart (fVar 7)))) (bName 11) fYes (e_law_bent_v16_1) [11]
def e_law_bent_v16_2 : M R := fOp (lift2 ixO) (fLst (fCons (fVar 13) (fCons (fOp (lift2 addO) (fVar 13) (fVar 12)) fNil))) (fCall intO (pCons (fOp (lift2 eqO) (fVar 13) (fVar 5)) fNil))
abbrev l_law_bent_v16_2 : M R := fLc (fLstI (fSplit (fVar 11) (fC (.str ">")))) (bName 13) fYes (e_law_bent_v16_2) [13]
def b_law_bent_v16_3 : DSt → Flow := fseq (fSet 12 (fOp (lift2 mulSO) (fC (.str "7")) (fOp (lift2 addO) (fOp (lift2 subO) (fC (.int 30)) (fCall lenO (pCons (fVar 5) fNil))) (fUser F_law_draw_v3 (fCons (fVar 0) (fCons (fC (.int 2)) fNil)))))) (fDrop (fApp 10 (fJoin (fC (.str ">")) (fLc (fLstI (fSplit (fVar 11) (fC (.str ">")))) (bName 13) fYes (e_law_bent_v16_2) [13]))))
abbrev o_law_bent_v16_3 : List PyData → DSt → Flow := loopF (bName 11) b_law_bent_v16_3
def p_law_bent_v16 : DSt → Flow := fseq (fSet 3 (fUser F_law_draw_v3 (fCons (fVar 0) (fCons (fOp (lift2 addO) (fCall lenO (pCons (fVar 1) fNil)) (fC (.int 1))) fNil)))) (fseq (fSet 4 (fOp (lift2 ixO) (fC (.str "> 0123456789\n-,._+x")) (fUser F_law_draw_v3 (fCons (fVar 0) (fCons (fC (.int 19)) fNil))))) (fseq (fSet 5 (fStr (fOp (lift2 ixO) (fVar 2) (fUser F_law_draw_v3 (fCons (fVar 0) (fCons (fCall lenO (pCons (fVar 2) fNil)) fNil)))))) (fseq (fSet 6 (fSplit (fVar 1) (fC (.str "\n")))) (fseq (fSet 7 (fUser F_law_draw_v3 (fCons (fVar 0) (fCons (fCall lenO (pCons (fVar 6) fNil)) fNil)))) (fseq (fSet 8 (fUser F_law_draw_v3 (fCons (fVar 0) (fCons (fC (.int 11)) fNil)))) (fseq (fIfS (fB (fOp (lift2 eqO) (fVar 8) (fC (.int 0)))) (fRet (fOp (lift2 addO) (fOp (lift2 addO) (fSlT (fVar 1) fNoPart (fPart (fVar 3))) (fVar 4)) (fSlT (fVar 1) (fPart (fVar 3)) fNoPart))) fnext) (fseq (fIfS (fB (fOp (lift2 eqO) (fVar 8) (fC (.int 1)))) (fRet (fOp (lift2 addO) (fSlT (fVar 1) fNoPart (fPart (fVar 3))) (fSlT (fVar 1) (fPart (fOp (lift2 addO) (fVar 3) (fC (.int 1)))) fNoPart))) fnext) (fseq (fIfS (fB (fOp (lift2 eqO) (fVar 8) (fC (.int 2)))) (fseq (fSet 9 (fOp (lift2 addO) (fSlT (fVar 1) (fPart (fOp (lift2 addO) (fVar 3) (fC (.int 1)))) (fPart (fOp (lift2 addO) (fVar 3) (fC (.int 2))))) (fSlT (fVar 1) (fPart (fVar 3)) (fPart (fOp (lift2 addO) (fVar 3) (fC (.int 1))))))) (fRet (fOp (lift2 addO) (fOp (lift2 addO) (fSlT (fVar 1) fNoPart (fPart (fVar 3))) (fVar 9)) (fSlT (fVar 1) (fPart (fOp (lift2 addO) (fVar 3) (fC (.int 2)))) fNoPart)))) fnext) (fseq (fIfS (fB (fOp (lift2 eqO) (fVar 8) (fC (.int 3)))) (fRet (fOp (lift2 addO) (fOp (lift2 addO) (fSlT (fVar 1) fNoPart (fPart (fVar 3))) (fVar 4)) (fSlT (fVar 1) (fPart (fOp (lift2 addO) (fVar 3) (fC (.int 1)))) fNoPart))) fnext) (fseq (fIfS (fB (fOp (lift2 eqO) (fVar 8) (fC (.int 4)))) (fRet (fSlT (fVar 1) fNoPart (fPart (fVar 3)))) fnext) (fseq (fIfS (fB (fOp (lift2 eqO) (fVar 8) (fC (.int 5)))) (fRet (fJoin (fC (.str "\n")) (fOp (lift2 addO) (fOp (lift2 addO) (fSlice (fVar 6) fNoPart (fPart (fVar 7))) (fSlice (fVar 6) (fPart (fVar 7)) (fPart (fOp (lift2 addO) (fVar 7) (fC (.int 1)))))) (fSlice (fVar 6) (fPart (fVar 7)) fNoPart)))) fnext) (fseq (fIfS (fB (fOp (lift2 eqO) (fVar 8) (fC (.int 6)))) (fRet (fJoin (fC (.str "\n")) (fOp (lift2 addO) (fSlice (fVar 6) fNoPart (fPart (fVar 7))) (fSlice (fVar 6) (fPart (fOp (lift2 addO) (fVar 7) (fC (.int 1)))) fNoPart)))) fnext) (fseq (fIfS (fB (fOp (lift2 eqO) (fVar 8) (fC (.int 7)))) (fRet (fJoin (fC (.str "\n")) (fOp (lift2 addO) (fLc (fLstI (fSlice (fVar 6) fNoPart (fPart (fVar 7)))) (bName 11) fYes (e_law_bent_v16_1) [11]) (fSlice (fVar 6) (fPart (fVar 7)) fNoPart)))) fnext) (fseq (fIfS (fB (fOp (lift2 eqO) (fVar 8) (fC (.int 8)))) (fRet (fOp (lift2 mulSO) (fOp (lift2 addO) (fOp (lift2 ixO) (fVar 6) (fC (.int 0))) (fC (.str "\n"))) (fOp (lift2 addO) (fC (.int 19)) (fUser F_law_draw_v3 (fCons (fVar 0) (fCons (fC (.int 3)) fNil)))))) fnext) (fseq (fIfS (fB (fOp (lift2 eqO) (fVar 8) (fC (.int 9)))) (fRet (fOp (lift2 ixO) (fLst (fCons (fC (.str "")) (fCons (fC (.str "\n")) (fCons (fC (.str "1")) (fCons (fC (.str "1>1\n")) (fCons (fC (.str "1>2\n2>1")) (fCons (fC (.str "1>2\n2>1>3\n")) (fCons (fC (.str "0>00\n")) (fCons (fC (.str "1>2\n1>3\n")) (fCons (fC (.str ">\n")) fNil)))))))))) (fUser F_law_draw_v3 (fCons (fVar 0) (fCons (fC (.int 9)) fNil))))) fnext) (fseq (fSet 10 (fLst fNil)) (fseq (fFor (fLstI (fVar 6)) (bName 11) b_law_bent_v16_3) (fRet (fJoin (fC (.str "\n")) (fVar 10))))))))))))))))))))
def F_law_bent_v16 : List R → Pw → FRes := runF 14 3 p_law_bent_v16
/-! a bent text -/
theorem add_txt {a b : Str} (h : a.length + b.length ≤ 5592405) : addO (.str a) (.str b) = some (.val (.str (a ++ b))) := if_pos (size_big h)
def cutZ {α : Type} (l : List α) (lo hi : Option Int) : List α := (l.drop (HT.sIx l.length 0 lo)).take (HT.sIx l.length l.length hi - HT.sIx l.length 0 lo)
theorem cut_mapG {α : Type} {f : α → PyData} {l : List α} {lo hi : Option Int} : cutD (l.map f) lo hi = (cutZ l lo hi).map f := by
  unfold cutD cutZ
  rw [List.length_map, List.map_take, List.map_drop]
theorem cutZ_mem {α : Type} {l : List α} {lo hi : Option Int} {y : α} (h : y ∈ cutZ l lo hi) : y ∈ l := List.mem_of_mem_drop (List.mem_of_mem_take h)
theorem cutZ_len {α : Type} {l : List α} {lo hi : Option Int} : (cutZ l lo hi).length ≤ l.length := by
  unfold cutZ
  rw [List.length_take, List.length_drop]
  omega
theorem cutZ_one {α : Type} {l : List α} {k : Nat} : (cutZ l (some (k : Int)) (some ((k : Int) + 1))).length ≤ 1 := by
  unfold cutZ
  rw [List.length_take, show ((k : Int) + 1) = ((k + 1 : Nat) : Int) by simp, HT.sIx_nat, HT.sIx_nat]
  omega
theorem cutS_one {x : Str} {k : Nat} : (cutS x (some ((k : Int) + 1)) (some ((k : Int) + 2))).length ≤ 1 := by
  have := cut_one (x := x) (k := k + 1)
  rw [show (((k + 1 : Nat) : Int)) = (k : Int) + 1 by simp, show (k : Int) + 1 + 1 = (k : Int) + 2 by omega] at this
  exact this
theorem add_list {a b : List PyData} (h : a.length + b.length ≤ 90000) : addO (.list a) (.list b) = some (.new (a ++ b)) := by
  have : leS (a.length + b.length) := size_le (by omega)
  simp [this]
theorem strs_map {l : List Str} : strsD (l.map .str) = some l := by
  induction l with
  | nil => rfl
  | cons a l ih => simp [strsD, ih]
theorem seven_step {pa : Addr} {w : Pw} {m : Int} {A B : Nat} {y : Str} {n : Int} {L : List Str} {v1 v2 v3 v4 v6 v7 v8 v9 v12 : Sl} (h : LP pa w m) (hm : m < 2 ^ 36) (hy : RowS A B y) (hA : 2 * A + 31 * (B + 1) ≤ 2000000) (hB : B ≤ 900) (hAB : (B + 1) * (A + 31 + 1) ≤ 16777216) (hn : 0 ≤ n ∧ n < 10 ^ 30) (hL : L.length ≤ 90000) :
    ∃ (z sv : Str) (w' : Pw), b_law_bent_v16_3 ⟨[.raw (.ref pa), v1, v2, v3, v4, .val (.str (wI n)), v6, v7, v8, v9, .own (L.map .str), .val (.str y), v12, .no], w⟩ = .next ⟨[.raw (.ref pa), v1, v2, v3, v4, .val (.str (wI n)), v6, v7, v8, v9, .own ((L ++ [z]).map .str), .val (.str y), .val (.str sv), .no], w'⟩ ∧ RowS (A + 31 * (B + 1)) B z ∧ LP pa w' (m + 1) := by
  obtain ⟨r, w', e, m1, q⟩ := draw_lit (b := 2) h (by omega) (by omega) (by omega)
  have ln := (wI_le hn).1
  obtain ⟨k, hk⟩ : ∃ k : Nat, 30 - (wI n).length + r = k := ⟨_, rfl⟩
  have ek : (30 : Int) - ((wI n).length : Int) + (r : Int) = (k : Int) := by omega
  have lo : lenO [.str (wI n)] = some (.val (.int ((wI n).length : Int))) := if_pos (size_le (by omega))
  have im : inT (Str.ofString "7") (k : Int) := mulOk (by
    have l7 : (Str.ofString "7").length = 1 := by decide
    rw [l7]; omega) (by omega)
  obtain ⟨ls, s7⟩ := sev_tl (n := k)
  obtain ⟨sv, hsv⟩ : ∃ sv, Txt.mul (Str.ofString "7") (k : Int) = sv := ⟨_, rfl⟩
  rw [hsv] at ls s7
  have hl := hy.l
  have l1 : leS (y.length + 2) := size_big (by omega)
  have sp : (Txt.split y (Str.ofString ">")).length ≤ B + 1 := by rw [split_gt]; have := hy.c; omega
  have rz := sevens_row (sv := sv) (k := 31) (g := fun p => if p = wI n then p ++ sv else p) hy (by omega) s7 (fun p => by
    by_cases c : p = wI n
    · exact .inr (if_pos c)
    · exact .inl (if_neg c))
  have cl : l_law_bent_v16_2 ⟨[.raw (.ref pa), v1, v2, v3, v4, .val (.str (wI n)), v6, v7, v8, v9, .own (L.map .str), .val (.str y), .val (.str sv), .no], w'⟩ = .ok (.new (((Txt.split y (Str.ofString ">")).map fun p => if p = wI n then p ++ sv else p).map .str)) ⟨[.raw (.ref pa), v1, v2, v3, v4, .val (.str (wI n)), v6, v7, v8, v9, .own (L.map .str), .val (.str y), .val (.str sv), .no], w'⟩ := by
    rw [List.map_map]
    refine lc_all (fun z : Str => ⟨[.raw (.ref pa), v1, v2, v3, v4, .val (.str (wI n)), v6, v7, v8, v9, .own (L.map .str), .val (.str y), .val (.str sv), .val (.str z)], w'⟩) _ (f := fun z : Str => PyData.str z) (l := Txt.split y (Str.ofString ">")) (by simp -implicitDefEqProofs [l1, sgt]) (by omega) rfl (fun a _ => by rfl) (fun a _ => by rfl) (fun p hp => ?_)
    have hs := PyProof.Rows.part_short hp
    have f1 := add_txt (a := p) (b := sv) (by omega)
    have l2 : leS 2 := size_le (by omega)
    by_cases c : p = wI n
    · unfold e_law_bent_v16_2
      have eq : eqO (.str p) (.str (wI n)) = some (.val (.bool true)) := by simp [c]
      have io : intO [.bool true] = some (.val (.int 1)) := rfl
      simp -implicitDefEqProofs [f1, eq, io, l2]
      exact fun z => absurd c z
    · unfold e_law_bent_v16_2
      have eq : eqO (.str p) (.str (wI n)) = some (.val (.bool false)) := by simp [c]
      have io : intO [.bool false] = some (.val (.int 0)) := rfl
      simp -implicitDefEqProofs [f1, eq, io, l2]
      exact fun z => absurd z c
  obtain ⟨PS, hPS⟩ : ∃ PS, (Txt.split y (Str.ofString ">")).map (fun p => if p = wI n then p ++ sv else p) = PS := ⟨_, rfl⟩
  rw [hPS] at cl rz
  have lj : leJ (Str.ofString ">") PS := by
    refine leJ_of (n := B + 1) (k := A + 31) (by decide) (by rw [← hPS, List.length_map]; exact sp) (fun z hz => ?_) hAB
    rw [← hPS] at hz
    obtain ⟨p, hp, rfl⟩ := List.mem_map.mp hz
    have hs := PyProof.Rows.part_short hp
    split
    · rw [app_len]; omega
    · omega
  have lt : ltS L.length := size_lt (by omega)
  refine ⟨Txt.join (Str.ofString ">") PS, sv, w', ?_, rz, q⟩
  unfold b_law_bent_v16_3
  rw [List.map_append]
  simp -implicitDefEqProofs [e, lo, ek, im, hsv, cl, lj, lt]
theorem seven_loop {pa : Addr} {A B : Nat} {n : Int} {v1 v2 v3 v4 v6 v7 v8 v9 : Sl} (hA : 2 * A + 31 * (B + 1) ≤ 2000000) (hB : B ≤ 900) (hAB : (B + 1) * (A + 31 + 1) ≤ 16777216) (hn : 0 ≤ n ∧ n < 10 ^ 30) : ∀ (ys L : List Str) (w : Pw) (m : Int) (v11 v12 : Sl), LP pa w m → m + ys.length < 2 ^ 36 → (∀ y ∈ ys, RowS A B y) → L.length + ys.length ≤ 90000 → (∀ y ∈ L, RowS (A + 31 * (B + 1)) B y) →
    ∃ (L' : List Str) (w' : Pw) (u11 u12 : Sl), loopF (bName 11) b_law_bent_v16_3 (ys.map .str) ⟨[.raw (.ref pa), v1, v2, v3, v4, .val (.str (wI n)), v6, v7, v8, v9, .own (L.map .str), v11, v12, .no], w⟩ = .next ⟨[.raw (.ref pa), v1, v2, v3, v4, .val (.str (wI n)), v6, v7, v8, v9, .own (L'.map .str), u11, u12, .no], w'⟩ ∧
      L'.length = L.length + ys.length ∧ (∀ y ∈ L', RowS (A + 31 * (B + 1)) B y) ∧ LP pa w' (m + ys.length)
  | [], L, w, m, v11, v12, h, _, _, _, hL => ⟨L, w, v11, v12, rfl, rfl, hL, h.mono (by simp)⟩
  | y :: ys, L, w, m, v11, v12, h, hm, hy, hl, hL => by
    simp only [List.length_cons] at hm hl ⊢
    obtain ⟨z, sv, w1, e, rz, q⟩ := seven_step (v1 := v1) (v2 := v2) (v3 := v3) (v4 := v4) (v6 := v6) (v7 := v7) (v8 := v8) (v9 := v9) (v12 := v12) (L := L) h (by omega) (hy y (by simp)) hA hB hAB hn (by omega)
    obtain ⟨L', w', u11, u12, e2, l2, r2, q2⟩ := seven_loop (v1 := v1) (v2 := v2) (v3 := v3) (v4 := v4) (v6 := v6) (v7 := v7) (v8 := v8) (v9 := v9) hA hB hAB hn ys (L ++ [z]) w1 (m + 1) (.val (.str y)) (.val (.str sv)) q (by omega) (fun x hx => hy x (by simp [hx])) (by simp; omega) (fun x hx => by
      rcases List.mem_append.mp hx with hx | hx
      · exact hL x hx
      · rw [List.mem_singleton.mp hx]; exact rz)
    refine ⟨L', w', u11, u12, ?_, by rw [l2]; simp; omega, r2, q2.mono (by omega)⟩
    have st : bName 11 (.str y) ⟨[.raw (.ref pa), v1, v2, v3, v4, .val (.str (wI n)), v6, v7, v8, v9, .own (L.map .str), v11, v12, .no], w⟩ = some ⟨[.raw (.ref pa), v1, v2, v3, v4, .val (.str (wI n)), v6, v7, v8, v9, .own (L.map .str), .val (.str y), v12, .no], w⟩ := rfl
    rw [List.map_cons, loop_cons st, e]
    exact e2
theorem bent_ok {pa : Addr} {w : Pw} {m : Int} {A B C : Nat} {x : Str} {N : List Int} (h : LP pa w m) (hm : m + 2000 < 2 ^ 36) (hx : FtS A B C x) (hN : ∀ n ∈ N, 0 ≤ n ∧ n < 10 ^ 30) (N0 : 0 < N.length) (N10 : N.length ≤ 10)
    (hb : (2 * C + 22) * (2 * A + 31 * (B + 1) + 2 + 1) + 100 ≤ 5592405) (hc : 2 * C + 22 ≤ 1000) (hB : B ≤ 900) (hAB : (B + 1) * (A + 31 + 1) ≤ 16777216) : ∃ (y : Str) (w' : Pw), F_law_bent_v16 [.raw (.ref pa), .val (.str x), .val (.list ((N).map .int))] w = .ok (.val (.str y)) w' ∧ FtS (2 * A + 31 * (B + 1) + 2) (2 * B + 3) (2 * C + 22) y ∧ LP pa w' (m + 2000) := by
  have C1 : 1 ≤ C := by have := hx.2; omega
  have xl := hx.len
  have hAC : C * (A + 1) ≤ (2 * C + 22) * (2 * A + 31 * (B + 1) + 2 + 1) := Nat.mul_le_mul (by omega) (by omega)
  have l1 : leS x.length := size_big (by omega)
  have l2 : leS (x.length + 2) := size_big (by omega)
  obtain ⟨RS, hRS⟩ : ∃ RS, Txt.split x (Str.ofString "\n") = RS := ⟨_, rfl⟩
  have lR : RS.length ≤ C := by rw [← hRS]; exact rows_le hx
  have lR0 : 0 < RS.length := by rw [← hRS, split_n]; omega
  have rR : ∀ y ∈ RS, RowS A B y := fun y hy => hx.rowS (by rw [hRS]; exact hy)
  obtain ⟨r1, w1, e1, m1, q1⟩ := draw_lit (b := (x.length : Int) + 1) h (by omega) (by omega) (by omega)
  obtain ⟨r2, w2, e2, m2, q2⟩ := draw_lit (b := 19) q1 (by omega) (by omega) (by omega)
  obtain ⟨r3, w3, e3, m3, q3⟩ := draw_lit (b := (N.length : Int)) q2 (by omega) (by omega) (by omega)
  obtain ⟨r4, w4, e4, m4, q4⟩ := draw_lit (b := (RS.length : Int)) q3 (by omega) (by omega) (by omega)
  obtain ⟨r5, w5, e5, m5, q5⟩ := draw_lit (b := 11) q4 (by omega) (by omega) (by omega)
  obtain ⟨c, hcg⟩ : ∃ c : Nat, ixO (.str (Str.ofString "> 0123456789\n-,._+x")) (.int (r2 : Int)) = some (.val (.str ⟨#[c]⟩)) := by
    have hl : (Str.ofString "> 0123456789\n-,._+x").cps.toList.length = 19 := by decide +kernel
    obtain ⟨c, ec, _⟩ := atI_some (xs := (Str.ofString "> 0123456789\n-,._+x").cps.toList) (i := (r2 : Int)) (by omega) (by rw [hl]; omega)
    refine ⟨c, ?_⟩
    show (if leS _ then (atI (Str.ofString "> 0123456789\n-,._+x").cps.toList (r2 : Int)).map fun c => R.val (.str ⟨#[c]⟩) else none) = _
    rw [if_pos (size_le (by decide +kernel)), ec]
    rfl
  obtain ⟨n, hn, mn⟩ := atI_some (xs := N) (i := (r3 : Int)) (by omega) (by omega)
  have hnN : ixO (.list (N.map .int)) (.int (r3 : Int)) = some (.val (.int n)) := by
    show (atI (N.map PyData.int) (r3 : Int)).map R.val = _
    rw [atI_mapF, hn]; rfl
  have hway : r5 = 0 ∨ r5 = 1 ∨ r5 = 2 ∨ r5 = 3 ∨ r5 = 4 ∨ r5 = 5 ∨ r5 = 6 ∨ r5 = 7 ∨ r5 = 8 ∨ r5 = 9 ∨ r5 = 10 := by omega
  have lo : lenO [.str x] = some (.val (.int (x.length : Int))) := if_pos l1
  have so : strO (.int n) = some (.val (.str (wI n))) := if_pos (lg_ok (hN n mn))
  have hX : 2 * x.length + 100 ≤ 5592405 := by
    have : (2 * C) * (A + 1) ≤ (2 * C + 22) * (2 * A + 31 * (B + 1) + 2 + 1) := Nat.mul_le_mul (by omega) (by omega)
    rw [Nat.mul_assoc] at this
    omega
  have hA : 24 * (A + 1) + 100 ≤ 5592405 := by
    have : 24 * (A + 1) ≤ (2 * C + 22) * (2 * A + 31 * (B + 1) + 2 + 1) := Nat.mul_le_mul (by omega) (by omega)
    omega
  have hA2 : 2 * A + 31 * (B + 1) ≤ 2000000 := by
    have : 24 * (2 * A + 31 * (B + 1) + 2 + 1) ≤ (2 * C + 22) * (2 * A + 31 * (B + 1) + 2 + 1) := Nat.mul_le_mul (by omega) (by omega)
    omega
  have lgn : lgT n := lg_ok (hN n mn)
  have fx : ∀ lo hi, FtS A B C (cutS x lo hi) := fun lo hi => hx.cut
  have lx : ∀ lo hi, (cutS x lo hi).length ≤ x.length := fun lo hi => cut_len
  obtain ⟨sg, hsg⟩ : ∃ sg : Str, (⟨#[c]⟩ : Str) = sg := ⟨_, rfl⟩
  have lsg : sg.length = 1 := by rw [← hsg]; rfl
  have fsg : FtS 1 1 2 sg := FtS.small (by omega)
  rw [hsg] at hcg
  obtain ⟨P, hP⟩ : ∃ P, cutS x none (some (r1 : Int)) = P := ⟨_, rfl⟩
  obtain ⟨Q, hQ⟩ : ∃ Q, cutS x (some (r1 : Int)) none = Q := ⟨_, rfl⟩
  obtain ⟨Q1, hQ1⟩ : ∃ Q, cutS x (some ((r1 : Int) + 1)) none = Q := ⟨_, rfl⟩
  obtain ⟨Q2, hQ2⟩ : ∃ Q, cutS x (some ((r1 : Int) + 2)) none = Q := ⟨_, rfl⟩
  obtain ⟨N1, hN1⟩ : ∃ Q, cutS x (some ((r1 : Int) + 1)) (some ((r1 : Int) + 2)) = Q := ⟨_, rfl⟩
  obtain ⟨N0', hN0⟩ : ∃ Q, cutS x (some (r1 : Int)) (some ((r1 : Int) + 1)) = Q := ⟨_, rfl⟩
  have lP : P.length ≤ x.length := hP ▸ lx _ _
  have lQ : Q.length ≤ x.length := hQ ▸ lx _ _
  have lQ1 : Q1.length ≤ x.length := hQ1 ▸ lx _ _
  have lQ2 : Q2.length ≤ x.length := hQ2 ▸ lx _ _
  have lN1 : N1.length ≤ 1 := hN1 ▸ cutS_one
  have lN0 : N0'.length ≤ 1 := hN0 ▸ cut_one
  have fP : FtS A B C P := hP ▸ fx _ _
  have fQ : FtS A B C Q := hQ ▸ fx _ _
  have fQ1 : FtS A B C Q1 := hQ1 ▸ fx _ _
  have fQ2 : FtS A B C Q2 := hQ2 ▸ fx _ _
  have fN1 : FtS 1 1 2 N1 := FtS.small lN1
  have fN0 : FtS 1 1 2 N0' := FtS.small lN0
  obtain ⟨G1, hG1⟩ : ∃ G, cutZ RS none (some (r4 : Int)) = G := ⟨_, rfl⟩
  obtain ⟨G2, hG2⟩ : ∃ G, cutZ RS (some (r4 : Int)) (some ((r4 : Int) + 1)) = G := ⟨_, rfl⟩
  obtain ⟨G3, hG3⟩ : ∃ G, cutZ RS (some (r4 : Int)) none = G := ⟨_, rfl⟩
  obtain ⟨G4, hG4⟩ : ∃ G, cutZ RS (some ((r4 : Int) + 1)) none = G := ⟨_, rfl⟩
  have c1 : cutD (RS.map .str) none (some (r4 : Int)) = G1.map .str := by rw [cut_mapG, hG1]
  have c2 : cutD (RS.map .str) (some (r4 : Int)) (some ((r4 : Int) + 1)) = G2.map .str := by rw [cut_mapG, hG2]
  have c3 : cutD (RS.map .str) (some (r4 : Int)) none = G3.map .str := by rw [cut_mapG, hG3]
  have c4 : cutD (RS.map .str) (some ((r4 : Int) + 1)) none = G4.map .str := by rw [cut_mapG, hG4]
  have lG1 : G1.length ≤ C := Nat.le_trans (hG1 ▸ cutZ_len) lR
  have lG2 : G2.length ≤ 1 := hG2 ▸ cutZ_one
  have lG3 : G3.length ≤ C := Nat.le_trans (hG3 ▸ cutZ_len) lR
  have lG4 : G4.length ≤ C := Nat.le_trans (hG4 ▸ cutZ_len) lR
  have rG1 : ∀ y ∈ G1, RowS A B y := fun y hy => rR y (cutZ_mem (hG1 ▸ hy))
  have rG2 : ∀ y ∈ G2, RowS A B y := fun y hy => rR y (cutZ_mem (hG2 ▸ hy))
  have rG3 : ∀ y ∈ G3, RowS A B y := fun y hy => rR y (cutZ_mem (hG3 ▸ hy))
  have rG4 : ∀ y ∈ G4, RowS A B y := fun y hy => rR y (cutZ_mem (hG4 ▸ hy))
  have up : ∀ {rows : List Str}, (∀ y ∈ rows, RowS (A + 1) B y) → rows.length ≤ 2 * C + 1 → leJ (Str.ofString "\n") rows ∧ FtS (2 * A + 31 * (B + 1) + 2) (2 * B + 3) (2 * C + 22) (Txt.join (Str.ofString "\n") rows) := fun {rows} hr hl => by
    have hr2 : ∀ y ∈ rows, RowS (2 * A + 31 * (B + 1) + 2) (2 * B + 3) y := fun y hy => (hr y hy).le (by omega) (by omega)
    exact ⟨leJ_rows hr2 (C := 2 * C + 22) (by omega) (by omega), join_rows hr2 (by omega) (by omega)⟩
  have a1 : ∀ {y : Str}, RowS A B y → RowS (A + 1) B y := fun h => h.le (by omega) (by omega)
  rcases hway with rfl | rfl | rfl | rfl | rfl | rfl | rfl | rfl | rfl | rfl | rfl
  · have f1 := add_txt (a := P) (b := sg) (by omega)
    have f2 := add_txt (a := P ++ sg) (b := Q) (by rw [app_len]; omega)
    refine ⟨P ++ sg ++ Q, w5, ?_, ((fP.app fsg).app fQ).le (by omega) (by omega) (by omega), q5.mono (by omega)⟩
    unfold F_law_bent_v16 p_law_bent_v16
    simp only [x_runF]
    simp -implicitDefEqProofs [lo, so, l1, l2, sln, hRS, e1, e2, e3, e4, e5, hcg, hnN, lgn, hP, hQ, f1, f2]
  · have f1 := add_txt (a := P) (b := Q1) (by omega)
    refine ⟨P ++ Q1, w5, ?_, (fP.app fQ1).le (by omega) (by omega) (by omega), q5.mono (by omega)⟩
    unfold F_law_bent_v16 p_law_bent_v16
    simp only [x_runF]
    simp -implicitDefEqProofs [lo, so, l1, l2, sln, hRS, e1, e2, e3, e4, e5, hcg, hnN, lgn, hP, hQ1, f1]
  · have f1 := add_txt (a := N1) (b := N0') (by omega)
    have f2 := add_txt (a := P) (b := N1 ++ N0') (by rw [app_len]; omega)
    have f3 := add_txt (a := P ++ (N1 ++ N0')) (b := Q2) (by rw [app_len, app_len]; omega)
    refine ⟨P ++ (N1 ++ N0') ++ Q2, w5, ?_, ((fP.app (fN1.app fN0)).app fQ2).le (by omega) (by omega) (by omega), q5.mono (by omega)⟩
    unfold F_law_bent_v16 p_law_bent_v16
    simp only [x_runF]
    simp -implicitDefEqProofs [lo, so, l1, l2, sln, hRS, e1, e2, e3, e4, e5, hcg, hnN, lgn, hP, hQ2, hN1, hN0, f1, f2, f3]
  · have f1 := add_txt (a := P) (b := sg) (by omega)
    have f2 := add_txt (a := P ++ sg) (b := Q1) (by rw [app_len]; omega)
    refine ⟨P ++ sg ++ Q1, w5, ?_, ((fP.app fsg).app fQ1).le (by omega) (by omega) (by omega), q5.mono (by omega)⟩
    unfold F_law_bent_v16 p_law_bent_v16
    simp only [x_runF]
    simp -implicitDefEqProofs [lo, so, l1, l2, sln, hRS, e1, e2, e3, e4, e5, hcg, hnN, lgn, hP, hQ1, f1, f2]
  · refine ⟨P, w5, ?_, fP.le (by omega) (by omega) (by omega), q5.mono (by omega)⟩
    unfold F_law_bent_v16 p_law_bent_v16
    simp only [x_runF]
    simp -implicitDefEqProofs [lo, so, l1, l2, sln, hRS, e1, e2, e3, e4, e5, hcg, hnN, lgn, hP]
  · obtain ⟨lj, fj⟩ := up (rows := G1 ++ G2 ++ G3) (fun y hy => a1 (by
      rw [List.mem_append, List.mem_append] at hy
      exact hy.elim (fun h => h.elim (rG1 y) (rG2 y)) (rG3 y))) (by rw [List.length_append, List.length_append]; omega)
    have ad1 := add_list (a := G1.map .str) (b := G2.map .str) (by rw [List.length_map, List.length_map]; omega)
    have ad2 := add_list (a := (G1 ++ G2).map .str) (b := G3.map .str) (by rw [List.length_map, List.length_map, List.length_append]; omega)
    rw [← List.map_append] at ad1 ad2
    obtain ⟨G12, h12⟩ : ∃ G, (G1 ++ G2).map PyData.str = G := ⟨_, rfl⟩
    have st := strs_map (l := G1 ++ G2 ++ G3)
    obtain ⟨GD, hGD⟩ : ∃ G, (G1 ++ G2 ++ G3).map PyData.str = G := ⟨_, rfl⟩
    rw [h12] at ad1 ad2
    rw [hGD] at ad2 st
    obtain ⟨RW, hRW⟩ : ∃ R, G1 ++ G2 ++ G3 = R := ⟨_, rfl⟩
    rw [hRW] at st lj fj
    refine ⟨_, w5, ?_, fj, q5.mono (by omega)⟩
    unfold F_law_bent_v16 p_law_bent_v16
    simp only [x_runF]
    simp -implicitDefEqProofs [lo, so, l1, l2, sln, hRS, e1, e2, e3, e4, e5, hcg, hnN, lgn, c1, c2, c3, ad1, ad2, st, lj, -x_addLL]
  · obtain ⟨lj, fj⟩ := up (rows := G1 ++ G4) (fun y hy => a1 (by
      rw [List.mem_append] at hy
      exact hy.elim (rG1 y) (rG4 y))) (by rw [List.length_append]; omega)
    have ad1 := add_list (a := G1.map .str) (b := G4.map .str) (by rw [List.length_map, List.length_map]; omega)
    rw [← List.map_append] at ad1
    have st := strs_map (l := G1 ++ G4)
    obtain ⟨GD, hGD⟩ : ∃ G, (G1 ++ G4).map PyData.str = G := ⟨_, rfl⟩
    rw [hGD] at ad1 st
    obtain ⟨RW, hRW⟩ : ∃ R, G1 ++ G4 = R := ⟨_, rfl⟩
    rw [hRW] at st lj fj
    refine ⟨_, w5, ?_, fj, q5.mono (by omega)⟩
    unfold F_law_bent_v16 p_law_bent_v16
    simp only [x_runF]
    simp -implicitDefEqProofs [lo, so, l1, l2, sln, hRS, e1, e2, e3, e4, e5, hcg, hnN, lgn, c1, c4, ad1, st, lj, -x_addLL]
  · obtain ⟨lj, fj⟩ := up (rows := G1.map (Str.ofString "0" ++ ·) ++ G3) (fun y hy => by
      rw [List.mem_append] at hy
      rcases hy with hy | hy
      · obtain ⟨z, hz, rfl⟩ := List.mem_map.mp hy
        have := rG1 z hz
        have t0 : TL.tl (Str.ofString "0") = [48] := by decide
        refine ⟨?_, ?_, ?_⟩
        · have := this.l
          have l0 : (Str.ofString "0").length = 1 := by decide
          rw [app_len]; omega
        · rw [TL.tl_append, List.count_append, t0]
          have := this.c
          simpa using this
        · rw [TL.tl_append, t0]
          simpa using this.n
      · exact a1 (rG3 y hy)) (by rw [List.length_append, List.length_map]; omega)
    have cl : ∀ w, l_law_bent_v16_1 ⟨[.raw (.ref pa), .val (.str x), .val (.list ((N).map .int)), .val (.int ((r1 : Nat) : Int)), .val (.str sg), .val (.str (wI n)), .own (RS.map .str), .val (.int ((r4 : Nat) : Int)), .val (.int (7)), .no, .no, .no, .no, .no], w⟩ = .ok (.new ((G1.map (Str.ofString "0" ++ ·)).map .str)) ⟨[.raw (.ref pa), .val (.str x), .val (.list ((N).map .int)), .val (.int ((r1 : Nat) : Int)), .val (.str sg), .val (.str (wI n)), .own (RS.map .str), .val (.int ((r4 : Nat) : Int)), .val (.int (7)), .no, .no, .no, .no, .no], w⟩ := fun w => by
      rw [List.map_map]
      refine lc_all (fun z : Str => ⟨[.raw (.ref pa), .val (.str x), .val (.list ((N).map .int)), .val (.int ((r1 : Nat) : Int)), .val (.str sg), .val (.str (wI n)), .own (RS.map .str), .val (.int ((r4 : Nat) : Int)), .val (.int (7)), .no, .no, .val (.str z), .no, .no], w⟩) _ (f := fun z : Str => PyData.str z) (l := G1) (by simp -implicitDefEqProofs [c1]) (by omega) rfl (fun a _ => by rfl) (fun a _ => by rfl) (fun z hz => ?_)
      have := (rG1 z hz).l
      have e := add_txt (a := Str.ofString "0") (b := z) (by have l0 : (Str.ofString "0").length = 1 := by decide
                                                             omega)
      unfold e_law_bent_v16_1
      simp -implicitDefEqProofs [e]
    have ad1 := add_list (a := (G1.map (Str.ofString "0" ++ ·)).map .str) (b := G3.map .str) (by rw [List.length_map, List.length_map, List.length_map]; omega)
    rw [← List.map_append] at ad1
    have st := strs_map (l := G1.map (Str.ofString "0" ++ ·) ++ G3)
    obtain ⟨GZ, hGZ⟩ : ∃ G, (G1.map (Str.ofString "0" ++ ·)).map PyData.str = G := ⟨_, rfl⟩
    obtain ⟨GD, hGD⟩ : ∃ G, (G1.map (Str.ofString "0" ++ ·) ++ G3).map PyData.str = G := ⟨_, rfl⟩
    rw [hGZ] at ad1
    simp only [hGZ] at cl
    rw [hGD] at ad1 st
    obtain ⟨RW, hRW⟩ : ∃ R, G1.map (Str.ofString "0" ++ ·) ++ G3 = R := ⟨_, rfl⟩
    rw [hRW] at st lj fj
    refine ⟨_, w5, ?_, fj, q5.mono (by omega)⟩
    unfold F_law_bent_v16 p_law_bent_v16
    simp only [x_runF]
    simp -implicitDefEqProofs [lo, so, l1, l2, sln, hRS, e1, e2, e3, e4, e5, hcg, hnN, lgn, c1, c3, cl, ad1, st, lj, -x_addLL]
  · obtain ⟨r6, w6, e6, m6, q6⟩ := draw_lit (b := 3) q5 (by omega) (by omega) (by omega)
    obtain ⟨y0, hy0, my0⟩ : ∃ y0, ixO (.list (RS.map .str)) (.int 0) = some (.val (.str y0)) ∧ y0 ∈ RS := by
      cases RS with
      | nil => simp at lR0
      | cons a l => exact ⟨a, by simp [ixO], by simp⟩
    have ry := rR y0 my0
    have hl := ry.l
    have lnl : (Str.ofString "\n").length = 1 := by decide
    have f1 := add_txt (a := y0) (b := Str.ofString "\n") (by omega)
    have ly : (y0 ++ Str.ofString "\n").length ≤ A + 1 := by rw [app_len]; omega
    have hm24 : 24 * (A + 1) ≤ (2 * C + 22) * (2 * A + 31 * (B + 1) + 2 + 1) := Nat.mul_le_mul (by omega) (by omega)
    have im : inT (y0 ++ Str.ofString "\n") ((19 + r6 : Nat) : Int) := mulOk (by
      have := Nat.mul_le_mul ly (show 19 + r6 ≤ 21 by omega)
      omega) (by omega)
    have fm := mul_rows (n := 19 + r6) ry (by omega)
    have ec : ((19 + r6 : Nat) : Int) = (19 : Int) + (r6 : Int) := by omega
    rw [ec] at im fm
    refine ⟨Txt.mul (y0 ++ Str.ofString "\n") ((19 : Int) + (r6 : Int)), w6, ?_, FtS.le fm (by omega) (by omega) (by omega), q6.mono (by omega)⟩
    unfold F_law_bent_v16 p_law_bent_v16
    simp only [x_runF]
    simp -implicitDefEqProofs [lo, so, l1, l2, sln, hRS, e1, e2, e3, e4, e5, hcg, hnN, lgn, hy0, f1, e6, im, -x_ixL]
  · obtain ⟨r6, w6, e6, m6, q6⟩ := draw_lit (b := 9) q5 (by omega) (by omega) (by omega)
    obtain ⟨O, hO⟩ : ∃ O, [PyData.str (Str.ofString ""), .str (Str.ofString "\n"), .str (Str.ofString "1"), .str (Str.ofString "1>1\n"), .str (Str.ofString "1>2\n2>1"), .str (Str.ofString "1>2\n2>1>3\n"), .str (Str.ofString "0>00\n"), .str (Str.ofString "1>2\n1>3\n"), .str (Str.ofString ">\n")] = O := ⟨_, rfl⟩
    have lO : O.length = 9 := by rw [← hO]; rfl
    obtain ⟨o, eo, mo⟩ := atI_some (xs := O) (i := (r6 : Int)) (by omega) (by omega)
    have hy : ∃ y : Str, o = .str y ∧ y.length ≤ 12 ∧ (TL.tl y).count 62 ≤ 3 := by
      rw [← hO] at mo
      simp only [List.mem_cons, List.not_mem_nil, or_false] at mo
      rcases mo with rfl | rfl | rfl | rfl | rfl | rfl | rfl | rfl | rfl <;> exact ⟨_, rfl, by decide +kernel, by decide +kernel⟩
    obtain ⟨y, rfl, ly, ly3⟩ := hy
    have fy : FtS 12 3 13 y := ⟨fun s hs _ => ⟨Nat.le_trans hs.length_le (by rw [← wI_len]; exact ly), Nat.le_trans (hs.sublist.count_le _) ly3⟩, (Ft.short (k := 12) (by rw [← wI_len]; exact ly)).2⟩
    have io : ixO (.list O) (.int (r6 : Int)) = some (.val (.str y)) := by
      show (atI O (r6 : Int)).map R.val = _
      rw [eo]; rfl
    have l9 : leS 9 := size_le (by omega)
    refine ⟨y, w6, ?_, FtS.le fy (by omega) (by omega) (by omega), q6.mono (by omega)⟩
    unfold F_law_bent_v16 p_law_bent_v16
    simp only [x_runF]
    simp -implicitDefEqProofs [lo, so, l1, l2, sln, hRS, e1, e2, e3, e4, e5, hcg, hnN, lgn, hO, io, lO, e6, l9]
  · obtain ⟨L', w6, u11, u12, el, ll, rl, q6⟩ := seven_loop (pa := pa) (v1 := .val (.str x)) (v2 := .val (.list ((N).map .int))) (v3 := .val (.int ((r1 : Nat) : Int))) (v4 := .val (.str sg)) (v6 := .val (.list (RS.map .str))) (v7 := .val (.int ((r4 : Nat) : Int))) (v8 := .val (.int (10))) (v9 := .no) hA2 hB hAB (hN n mn) RS [] w5 _ .no .no q5 (by omega) rR (by simp; omega) (fun y hy => by cases hy)
    have hr2 : ∀ y ∈ L', RowS (2 * A + 31 * (B + 1) + 2) (2 * B + 3) y := fun y hy => (rl y hy).le (by omega) (by omega)
    rw [List.length_nil, Nat.zero_add] at ll
    have lj := leJ_rows hr2 (C := 2 * C + 22) (by omega) (by omega)
    have fj := join_rows hr2 (C := 2 * C + 22) (by omega) (by omega)
    have st := strs_map (l := L')
    refine ⟨_, w6, ?_, fj, q6.mono (by omega)⟩
    rw [List.map_nil] at el
    unfold F_law_bent_v16 p_law_bent_v16
    simp only [x_runF]
    simp -implicitDefEqProofs [lo, so, l1, l2, sln, hRS, e1, e2, e3, e4, e5, hcg, hnN, lgn, el, st, lj]

end DL

noncomputable section
namespace DL
open PySem L2
def e_law_k81_1 : M R := fStr (fVar 11)
abbrev l_law_k81_1 : M R := fLc (fLstI (fVar 10)) (bName 11) fYes (e_law_k81_1) [11]
def e_law_k81_2 : M R := fOp (lift2 addO) (fJoin (fC (.str ">")) (fLc (fLstI (fVar 10)) (bName 11) fYes (e_law_k81_1) [11])) (fC (.str "\n"))
abbrev l_law_k81_2 : M R := fLc (fLstI (fVar 4)) (bName 10) fYes (e_law_k81_2) [10]
def b_law_k81_3 : DSt → Flow := fseq (fSet 10 (fUser F_law_ranked_v2 (fCons (fVar 9) fNil))) (fseq (fSet 7 (fLst (fCons (fC (.int 0)) fNil))) (fseq (fIfS (fB (fIsN true (fVar 10))) (fSet 7 (fTup (fCons (fVar 10) fNil))) fnext) (fIfS (fB (fOp (lift2 neO) (fUser F_law_told_v35 (fCons (fC (.int 1)) (fCons (fVar 9) fNil))) (fVar 7))) (fRet (fC (.bool false))) fnext)))
abbrev o_law_k81_3 : List PyData → DSt → Flow := loopF (bName 9) b_law_k81_3
def b_law_k81_4 : DSt → Flow := fseq (fSet 5 (fUser F_law_bent_v16 (fCons (fVar 2) (fCons (fVar 5) (fCons (fVar 3) fNil))))) (fseq (fSet 7 (fUser F_law_folk_of_v2 (fCons (fVar 5) fNil))) (fseq (fIfS (fOr (fB (fOp (lift2 neO) (fUser F_law_told_v35 (fCons (fC (.int 0)) (fCons (fVar 5) fNil))) (fVar 7))) (fB (fOp (lift2 neO) (fUser F_law_told_v35 (fCons (fC (.int 0)) (fCons (fVar 5) fNil))) (fVar 7)))) (fRet (fC (.bool false))) fnext) (fseq (fSet 8 (fSlice (fSplit (fVar 5) (fC (.str "\n"))) fNoPart (fPart (fC (.int 3))))) (fFor (fLstI (fOp (lift2 addO) (fVar 8) (fLst (fCons (fOp (lift2 addO) (fOp (lift2 ixO) (fVar 8) (fC (.int 0))) (fC (.str "\n"))) (fCons (fOp (lift2 addO) (fC (.str "+")) (fOp (lift2 ixO) (fVar 8) (fC (.int 0)))) (fCons (fRep (0) ">" "_1>" (fVar 8)) (fCons (fOp (lift2 addO) (fC (.str " ")) (fOp (lift2 ixO) (fVar 8) (fC (.int 0)))) fNil))))))) (bName 9) b_law_k81_3))))
abbrev o_law_k81_4 : List PyData → DSt → Flow := loopF (bName 6) b_law_k81_4
def b_law_k81_5 : DSt → Flow := fseq (fSet 3 (fUser F_law_names_v6 (fCons (fVar 2) (fCons (fOp (lift2 addO) (fC (.int 1)) (fUser F_law_draw_v3 (fCons (fVar 2) (fCons (fC (.int 10)) fNil)))) fNil)))) (fseq (fSet 4 (fUser F_law_folk_v14 (fCons (fVar 2) (fCons (fVar 3) (fCons (fUser F_law_tree_v2 (fCons (fVar 2) (fCons (fVar 3) fNil))) fNil))))) (fseq (fSet 5 (fJoin (fC (.str "")) (fLc (fLstI (fVar 4)) (bName 10) fYes (e_law_k81_2) [10]))) (fFor (fRng1 (pCons (fC (.int 3)) fNil)) (bName 6) b_law_k81_4)))
def p_law_k81 : DSt → Flow := fseq (fForW (fLstI (fOp (lift2 addO) (fLst (fCons (fC (.int 41)) fNil)) (fScCut 6 (fVar 0)))) (bName 1) 2 (fUser F_law_left (fCons (fVar 1) fNil)) b_law_k81_5) (fRet (fUser F_law_refusals_held_v5 fNil))
def F_law_k81 : List R → Pw → FRes := runF 12 1 p_law_k81
/-! one turn -/
theorem rank_size {x : Str} {r : List Int} (h : rankV x = some r) : r.length ≤ 10 := by
  unfold rankV at h
  split at h
  · split at h
    · rename_i hr
      cases h
      exact hr.2.2.2
    · cases h
  · cases h
theorem foldK_size : ∀ {rows : List Str} {k : Nat} {f g : List (List Int)}, foldK rows k f = .inl g → f.length = k → k ≤ 20 → (∀ r ∈ f, r.length ≤ 10) → g.length ≤ 20 ∧ ∀ r ∈ g, r.length ≤ 10
  | [], k, f, g, h, hk, h20, hf => by cases h; exact ⟨by omega, hf⟩
  | x :: rows, k, f, g, h, hk, h20, hf => by
    unfold foldK at h
    cases q : rankV x with
    | none => rw [q] at h; cases h
    | some r =>
      rw [q] at h
      dsimp only at h
      split at h
      · cases h
      · rename_i hc
        exact foldK_size h (by simp [hk]) (by omega) (fun s hs => by
          rcases List.mem_append.mp hs with hs | hs
          · exact hf s hs
          · rw [List.mem_singleton.mp hs]; exact rank_size q)
theorem folk_size {x : Str} {g : List (List Int)} (h : folkV x = .inl g) : bdd 3 (.tuple [.list (g.map llD)]) := by
  unfold folkV at h
  split at h
  · cases h
  · rename_i f q
    split at h
    · cases h
    · cases h
      obtain ⟨h1, h2⟩ := foldK_size q rfl (by omega) (by simp)
      rw [bdd_tuple]
      refine ⟨by simp, fun d hd => ?_⟩
      rw [List.mem_singleton.mp hd, bdd_list, List.length_map]
      refine ⟨by omega, fun d hd => ?_⟩
      obtain ⟨r, hr, rfl⟩ := List.mem_map.mp hd
      rw [llD, bdd_list, List.length_map]
      refine ⟨by have := h2 r hr; omega, fun d hd => ?_⟩
      obtain ⟨z, _, rfl⟩ := List.mem_map.mp hd
      simp
theorem word_step {x : Str} {w : Pw} {a0 a1 a2 a3 a4 a5 a6 a7 a8 a10 a11 : Sl} (h : WordOk x) : ∃ u7 u10, b_law_k81_3 ⟨[a0, a1, a2, a3, a4, a5, a6, a7, a8, .val (.str x), a10, a11], w⟩ = .next ⟨[a0, a1, a2, a3, a4, a5, a6, u7, a8, .val (.str x), u10, a11], w⟩ := by
  have e1 := ranked_law (w := w) h
  have s1 : leS 1 := size_le (by omega)
  cases q : rankV x with
  | none =>
    rw [q] at e1
    have e2 := (told_word (w := w) h).2 q
    have nn : neO (.list [.int 0]) (.list [.int 0]) = some (.val (.bool false)) := neO_self (n := 1) (by simp) (by omega)
    refine ⟨.own [.int 0], .val .none, ?_⟩
    unfold b_law_k81_3
    simp -implicitDefEqProofs [e1, e2, rkR, s1, nn]
  | some r =>
    rw [q] at e1
    have e2 := (told_word (w := w) h).1 r q
    have nn : neO (.tuple [.list (r.map .int)]) (.tuple [.list (r.map .int)]) = some (.val (.bool false)) := neO_self (n := 2) (by
      have := rank_size q
      simp
      omega) (by omega)
    obtain ⟨D, hD⟩ : ∃ D, r.map PyData.int = D := ⟨_, rfl⟩
    simp only [rkR] at e1
    rw [hD] at e1 e2 nn
    refine ⟨.val (.tuple [.list D]), .val (.list D), ?_⟩
    unfold b_law_k81_3
    simp -implicitDefEqProofs [e1, e2, rkR, s1, nn]
theorem word_loop {w : Pw} {a0 a1 a2 a3 a4 a5 a6 a8 a11 : Sl} : ∀ (xs : List Str) (a7 a9 a10 : Sl), (∀ x ∈ xs, WordOk x) → ∃ u7 u9 u10, loopF (bName 9) b_law_k81_3 (xs.map .str) ⟨[a0, a1, a2, a3, a4, a5, a6, a7, a8, a9, a10, a11], w⟩ = .next ⟨[a0, a1, a2, a3, a4, a5, a6, u7, a8, u9, u10, a11], w⟩
  | [], a7, a9, a10, _ => ⟨a7, a9, a10, rfl⟩
  | x :: xs, a7, a9, a10, h => by
    obtain ⟨v7, v10, e⟩ := word_step (w := w) (a0 := a0) (a1 := a1) (a2 := a2) (a3 := a3) (a4 := a4) (a5 := a5) (a6 := a6) (a7 := a7) (a8 := a8) (a10 := a10) (a11 := a11) (h x (by simp))
    obtain ⟨u7, u9, u10, e2⟩ := word_loop (w := w) (a0 := a0) (a1 := a1) (a2 := a2) (a3 := a3) (a4 := a4) (a5 := a5) (a6 := a6) (a8 := a8) (a11 := a11) xs v7 (.val (.str x)) v10 (fun y hy => h y (by simp [hy]))
    have st : bName 9 (.str x) ⟨[a0, a1, a2, a3, a4, a5, a6, a7, a8, a9, a10, a11], w⟩ = some ⟨[a0, a1, a2, a3, a4, a5, a6, a7, a8, .val (.str x), a10, a11], w⟩ := rfl
    refine ⟨u7, u9, u10, ?_⟩
    rw [List.map_cons, loop_cons st, e]
    exact e2
theorem turn_ok {pa : Addr} {w : Pw} {m : Int} {A B C : Nat} {x : Str} {N : List Int} {a0 a1 a4 a6 a7 a8 a9 a10 a11 : Sl} (h : LP pa w m) (hm : m + 2000 < 2 ^ 36) (hx : FtS A B C x) (hN : ∀ n ∈ N, 0 ≤ n ∧ n < 10 ^ 30) (N0 : 0 < N.length) (N10 : N.length ≤ 10)
    (hb : (2 * C + 22) * (2 * A + 31 * (B + 1) + 2 + 1) + 100 ≤ 5592405) (hc : 2 * C + 22 ≤ 1000) (hB : 2 * B + 3 ≤ 900) (hAB : (B + 1) * (A + 31 + 1) ≤ 16777216) :
    ∃ (y : Str) (w' : Pw) (u7 u8 u9 u10 : Sl), b_law_k81_4 ⟨[a0, a1, .raw (.ref pa), .val (.list ((N).map .int)), a4, .val (.str x), a6, a7, a8, a9, a10, a11], w⟩ = .next ⟨[a0, a1, .raw (.ref pa), .val (.list ((N).map .int)), a4, .val (.str y), a6, u7, u8, u9, u10, a11], w'⟩ ∧ FtS (2 * A + 31 * (B + 1) + 2) (2 * B + 3) (2 * C + 22) y ∧ LP pa w' (m + 2000) := by
  obtain ⟨y, w', e, fy, q⟩ := bent_ok h hm hx hN N0 N10 hb hc (by omega) hAB
  have hA2 : 24 * (2 * A + 31 * (B + 1) + 2 + 1) ≤ (2 * C + 22) * (2 * A + 31 * (B + 1) + 2 + 1) := Nat.mul_le_mul (by have := hx.2; omega) (by omega)
  obtain ⟨A', hA'⟩ : ∃ A', 2 * A + 31 * (B + 1) + 2 = A' := ⟨_, rfl⟩
  obtain ⟨B', hB'⟩ : ∃ A', 2 * B + 3 = A' := ⟨_, rfl⟩
  obtain ⟨C', hC'⟩ : ∃ A', 2 * C + 22 = A' := ⟨_, rfl⟩
  rw [hA'] at fy hb hA2 ⊢
  rw [hB'] at fy hB ⊢
  rw [hC'] at fy hb hc hA2 ⊢
  have ok : TextOk y := fy.ok (by omega) (by omega) hc (by omega)
  have e2 := law_folk_any (w := w') ok
  have e3 := told_folk (w := w') ok
  have l2 := ok.l
  obtain ⟨RS, hRS⟩ : ∃ RS, Txt.split y (Str.ofString "\n") = RS := ⟨_, rfl⟩
  have rR : ∀ z ∈ RS, RowS A' B' z := fun z hz => fy.rowS (by rw [hRS]; exact hz)
  have lR0 : 0 < RS.length := by rw [← hRS, split_n]; omega
  obtain ⟨S, hS⟩ : ∃ S, cutZ RS none (some 3) = S := ⟨_, rfl⟩
  have c1 : cutD (RS.map .str) none (some 3) = S.map .str := by rw [cut_mapG, hS]
  have rS : ∀ z ∈ S, RowS A' B' z := fun z hz => rR z (cutZ_mem (hS ▸ hz))
  have lS3 : S.length = min 3 RS.length := by
    rw [← hS]
    unfold cutZ
    rw [show (some (3 : Int)) = some ((3 : Nat) : Int) by rfl, HT.sIx_nat, HT.sIx_none, List.length_take, List.length_drop]
    omega
  have lS : S.length ≤ 3 := by omega
  obtain ⟨y0, S', hy0⟩ : ∃ y0 S', S = y0 :: S' := by
    cases S with
    | cons a b => exact ⟨a, b, rfl⟩
    | nil =>
      rw [List.length_nil] at lS3
      omega
  have r0 : RowS A' B' y0 := rS y0 (by simp [hy0])
  have i0 : ixO (.list (S.map .str)) (.int 0) = some (.val (.str y0)) := by rw [hy0]; simp [ixO]
  have at0 : (S.map PyData.str)[0]? = some (.str y0) := by rw [hy0]; simp
  have ll := r0.l
  have ln1 : (Str.ofString "\n").length = 1 := by decide
  have lp1 : (Str.ofString "+").length = 1 := by decide
  have ls1 : (Str.ofString " ").length = 1 := by decide
  have f1 := add_txt (a := y0) (b := Str.ofString "\n") (by omega)
  have f2 := add_txt (a := Str.ofString "+") (b := y0) (by omega)
  have f3 := add_txt (a := Str.ofString " ") (b := y0) (by omega)
  have lr : leR y0 (Str.ofString "_1>") := by
    have : (Str.ofString "_1>").length = 3 := by decide
    show y0.length + (y0.length + 1) * (Str.ofString "_1>").length ≤ 16777216
    rw [this]
    omega
  have ng : (Str.ofString ">" == Str.ofString "_1>") = false := by decide +kernel
  obtain ⟨WD, hWD⟩ : ∃ WD : List Str, [y0 ++ Str.ofString "\n", Str.ofString "+" ++ y0, Txt.replace y0 (Str.ofString ">") (Str.ofString "_1>"), Str.ofString " " ++ y0] = WD := ⟨_, rfl⟩
  have hWD2 : [PyData.str (y0 ++ Str.ofString "\n"), .str (Str.ofString "+" ++ y0), .str (Txt.replace y0 (Str.ofString ">") (Str.ofString "_1>")), .str (Str.ofString " " ++ y0)] = WD.map .str := by rw [← hWD]; rfl
  have app1 : ∀ a b : Str, a.length + b.length ≤ A' + 1 → (TL.tl a).count 62 + (TL.tl b).count 62 ≤ B' → WordOk (a ++ b) := fun a b h1 h2 => by
    refine ⟨size_big (by rw [app_len]; omega), ?_⟩
    rw [split_gt, TL.tl_append, List.count_append]
    omega
  have wW : ∀ z ∈ S ++ WD, WordOk z := fun z hz => by
    rcases List.mem_append.mp hz with hz | hz
    · exact (rS z hz).word (by omega) (by omega)
    · rw [← hWD] at hz
      have lc := r0.c
      simp only [List.mem_cons, List.not_mem_nil, or_false] at hz
      rcases hz with rfl | rfl | rfl | rfl
      · exact app1 _ _ (by omega) (by rw [tl_nl]; simpa using lc)
      · exact app1 _ _ (by omega) (by rw [show TL.tl (Str.ofString "+") = [43] by decide]; simpa using lc)
      · exact (repl_row r0).word (by omega) (by omega)
      · exact app1 _ _ (by omega) (by rw [show TL.tl (Str.ofString " ") = [32] by decide]; simpa using lc)
  have ad := add_list (a := S.map .str) (b := WD.map .str) (by rw [List.length_map, List.length_map, ← hWD]; simp; omega)
  rw [← List.map_append] at ad
  have s4 : leS WD.length := size_le (by rw [← hWD]; simp)
  cases q2 : folkV y with
  | inl g =>
    have e2' := e2.1 g q2
    have e3' := e3.1 g q2
    have nn := neO_self (folk_size q2) (by omega)
    obtain ⟨G, hG⟩ : ∃ G, g.map llD = G := ⟨_, rfl⟩
    rw [hG] at e2' e3' nn
    obtain ⟨u7, u9, u10, el⟩ := word_loop (w := w') (a0 := a0) (a1 := a1) (a2 := .raw (.ref pa)) (a3 := .val (.list ((N).map .int))) (a4 := a4) (a5 := .val (.str y)) (a6 := a6) (a8 := .own (S.map .str)) (a11 := a11) (S ++ WD) (.val (.tuple [.list G])) a9 a10 wW
    refine ⟨y, w', u7, .own (S.map .str), u9, u10, ?_, fy, q⟩
    obtain ⟨SD, hSD⟩ : ∃ SD, S.map PyData.str = SD := ⟨_, rfl⟩
    obtain ⟨XD, hXD⟩ : ∃ SD, (S ++ WD).map PyData.str = SD := ⟨_, rfl⟩
    rw [hSD] at ad c1 i0 at0 el ⊢
    rw [hXD] at ad el
    unfold b_law_k81_4
    simp -implicitDefEqProofs [e, e2', e3', nn, l2, sln, hRS, c1, i0, f1, f2, f3, at0, lr, ng, hWD2, ad, el, s4, -x_addLL, -x_ixL]
  | inr k =>
    have e2' := e2.2 k q2
    have e3' := e3.2 k q2
    have nn : neO (.list [.int (k : Int)]) (.list [.int (k : Int)]) = some (.val (.bool false)) := neO_self (n := 1) (by simp) (by omega)
    obtain ⟨u7, u9, u10, el⟩ := word_loop (w := w') (a0 := a0) (a1 := a1) (a2 := .raw (.ref pa)) (a3 := .val (.list ((N).map .int))) (a4 := a4) (a5 := .val (.str y)) (a6 := a6) (a8 := .own (S.map .str)) (a11 := a11) (S ++ WD) (.own [.int (k : Int)]) a9 a10 wW
    refine ⟨y, w', u7, .own (S.map .str), u9, u10, ?_, fy, q⟩
    obtain ⟨SD, hSD⟩ : ∃ SD, S.map PyData.str = SD := ⟨_, rfl⟩
    obtain ⟨XD, hXD⟩ : ∃ SD, (S ++ WD).map PyData.str = SD := ⟨_, rfl⟩
    rw [hSD] at ad c1 i0 at0 el ⊢
    rw [hXD] at ad el
    unfold b_law_k81_4
    simp -implicitDefEqProofs [e, e2', e3', nn, l2, sln, hRS, c1, i0, f1, f2, f3, at0, lr, ng, hWD2, ad, el, s4, -x_addLL, -x_ixL]

end DL

noncomputable section
namespace DL
open PySem L2

/-! the folk's own text -/
theorem one_row {r : List Int} (h : okW r) (hl : r.length ≤ 10) : RowS 310 9 (oneT r) := by
  refine ⟨one_len h hl, ?_, one_free h⟩
  rw [tl_one]
  have := count_join (c := 62) (S := [62]) (by simp) (rows := r.map fun x => TL.tl (wI x)) fun q hq => by
    obtain ⟨x, hx, rfl⟩ := List.mem_map.mp hq
    exact (wI_le (h x hx)).2 62 (by omega)
  rw [List.length_map] at this
  omega
theorem folk_fit {f : List (List Int)} (h : ∀ r ∈ f, okW r ∧ r.length ≤ 10) (h20 : f.length ≤ 20) : FtS 310 9 21 (folkT f) := by
  have e := join_spl (c := 10) (TL.tl (folkT f)) []
  rw [List.nil_append, ← spl_nlS, split_folk fun r hr => (h r hr).1] at e
  unfold FtS
  rw [← e]
  refine .join (fun q hq => ?_) (by simp; omega) (by omega)
  obtain ⟨y, hy, rfl⟩ := List.mem_map.mp hq
  rcases List.mem_append.mp hy with hy | hy
  · obtain ⟨r, hr, rfl⟩ := List.mem_map.mp hy
    have := one_row (h r hr).1 (h r hr).2
    exact ⟨this.rb, this.n⟩
  · rw [List.mem_singleton.mp hy, show TL.tl (Str.ofString "") = [] by decide]
    exact ⟨(RB.short (k := 0) (by simp)).le (by omega) (by omega), by simp⟩
theorem law_k81_ok : LawOkS 12 p_law_k81 := by
  intro ns hl
  have good : goodW (bName 1) 2 (fUser F_law_left (fCons (fVar 1) fNil)) b_law_k81_5 ((41 :: ns.take 6).map .int) ⟨[.ob (.scr ns), .no, .no, .no, .no, .no, .no, .no, .no, .no, .no, .no], none⟩ := by
    refine ⟨rfl, by simp [clearZ], fun d hd => ?_⟩
    obtain ⟨c, hc, rfl⟩ := List.mem_map.mp hd
    obtain ⟨n, g, el, n0, n1⟩ := left_ok (c := c) (w := none)
    refine ⟨⟨[.ob (.scr ns), .val (.int (c)), .no, .no, .no, .no, .no, .no, .no, .no, .no, .no], none⟩, ⟨[.ob (.scr ns), .val (.int (c)), .no, .no, .no, .no, .no, .no, .no, .no, .no, .no], none⟩, [n, g, 0], rfl, by simp -implicitDefEqProofs [el], rfl, by simp, fun pa => ?_⟩
    have lp : LP pa (some (pa, pa, [n, g, 0], 0)) 0 := ⟨n, g, 0, rfl, n0, n1, by omega, by omega⟩
    obtain ⟨m, w1, e1, m1, q1⟩ := draw_lit (b := 10) lp (by omega) (by omega) (by omega)
    obtain ⟨N, w2, e2, lN, sN, pN, q2⟩ := names6_ok (n := 1 + m) q1 (by omega) (by omega)
    have em : ((1 + m : Nat) : Int) = (1 : Int) + (m : Int) := by omega
    rw [em] at e2
    have hM : Rank N := ⟨sN.imp fun h => by omega, fun x hx => (pN x hx).1, by omega, by omega⟩
    have l10 := hM.2.2.2
    have oN : ∀ x ∈ N, 0 ≤ x ∧ x < 10 ^ 30 := fun x hx => by
      have := pN x hx
      refine ⟨this.1, ?_⟩
      have h2 := this.2
      have : (1000000001 : Int) * ((1 + m : Nat) : Int) ≤ 1000000001 * 10 := by omega
      omega
    obtain ⟨T, w4, e4, hT, q4⟩ := tree_ok q2 (by omega) hM.2.2.1 (by omega)
    obtain ⟨f, w5, e5, f0, f20, pf, q5⟩ := folk14_ok q4 (by omega) hM.1 hM.2.2.1 (by omega) hT
    have ok : ∀ r ∈ f, okW r ∧ r.length ≤ 10 := fun r hr => ⟨fun x hx => oN x ((pf r hr).mem_iff.mp hx), by rw [(pf r hr).length_eq]; exact l10⟩
    have fit := folk_fit ok f20
    obtain ⟨X, hX⟩ : ∃ X, folkT f = X := ⟨_, rfl⟩
    rw [hX] at fit
    obtain ⟨x1, w6, b7, b8, b9, b10, t1, y1, q6⟩ := turn_ok (a0 := .ob (.scr ns)) (a1 := .val (.int (c))) (a4 := .val (.list ((f).map llD))) (a6 := .val (.int (0))) (a7 := .no) (a8 := .no) (a9 := .no) (a10 := .no) (a11 := .no) q5 (by omega) fit oN hM.2.2.1 l10 (by omega) (by omega) (by omega) (by omega)
    obtain ⟨x2, w7, c7, c8, c9, c10, t2, y2, q7⟩ := turn_ok (a0 := .ob (.scr ns)) (a1 := .val (.int (c))) (a4 := .val (.list ((f).map llD))) (a6 := .val (.int (1))) (a7 := b7) (a8 := b8) (a9 := b9) (a10 := b10) (a11 := .no) q6 (by omega) y1 oN hM.2.2.1 l10 (by omega) (by omega) (by omega) (by omega)
    obtain ⟨x3, w8, d7, d8, d9, d10, t3, y3, q8⟩ := turn_ok (a0 := .ob (.scr ns)) (a1 := .val (.int (c))) (a4 := .val (.list ((f).map llD))) (a6 := .val (.int (2))) (a7 := c7) (a8 := c8) (a9 := c9) (a10 := c10) (a11 := .no) q7 (by omega) y2 oN hM.2.2.1 l10 (by omega) (by omega) (by omega) (by omega)
    have c2 : l_law_k81_2 ⟨[.ob (.scr ns), .val (.int (c)), .raw (.ref pa), .val (.list ((N).map .int)), .own (f.map llD), .no, .no, .no, .no, .no, .no, .no], w5⟩ = .ok (.new ((f.map rowT).map .str)) ⟨[.ob (.scr ns), .val (.int (c)), .raw (.ref pa), .val (.list ((N).map .int)), .val (.list ((f).map llD)), .no, .no, .no, .no, .no, .no, .no], w5⟩ := by
      rw [List.map_map]
      refine lc_all (fun r : List Int => ⟨[.ob (.scr ns), .val (.int (c)), .raw (.ref pa), .val (.list ((N).map .int)), .val (.list ((f).map llD)), .no, .no, .no, .no, .no, .val (llD r), .no], w5⟩) _ (f := llD) (l := f) (by simp -implicitDefEqProofs) (by omega) rfl (fun a _ => by rfl) (fun a _ => by rfl) (fun r hr => ?_)
      obtain ⟨h1, h2⟩ := ok r hr
      have cl : l_law_k81_1 ⟨[.ob (.scr ns), .val (.int (c)), .raw (.ref pa), .val (.list ((N).map .int)), .val (.list ((f).map llD)), .no, .no, .no, .no, .no, .val (llD r), .no], w5⟩ = .ok (.new ((r.map wI).map .str)) ⟨[.ob (.scr ns), .val (.int (c)), .raw (.ref pa), .val (.list ((N).map .int)), .val (.list ((f).map llD)), .no, .no, .no, .no, .no, .val (llD r), .no], w5⟩ := by
        rw [List.map_map]
        refine lc_all (fun x : Int => ⟨[.ob (.scr ns), .val (.int (c)), .raw (.ref pa), .val (.list ((N).map .int)), .val (.list ((f).map llD)), .no, .no, .no, .no, .no, .val (llD r), .val (.int (x))], w5⟩) _ (f := .int) (l := r) (by simp -implicitDefEqProofs [llD]) (by omega) rfl (fun a _ => by rfl) (fun a _ => by rfl) (fun x hx => ?_)
        have so : strO (.int x) = some (.val (.str (wI x))) := if_pos (lg_ok (h1 x hx))
        unfold e_law_k81_1
        simp -implicitDefEqProofs [so]
      have lj : leJ (Str.ofString ">") (r.map wI) := leJ_of (n := 10) (k := 30) (by decide) (by rw [List.length_map]; exact h2) (fun y hy => by
        obtain ⟨x, hx, rfl⟩ := List.mem_map.mp hy
        exact (wI_le (h1 x hx)).1) (by omega)
      have st := strs_map (l := r.map wI)
      have ln1 : (Str.ofString "\n").length = 1 := by decide
      have ad := add_txt (a := oneT r) (b := Str.ofString "\n") (by have := one_len h1 h2; omega)
      unfold oneT at ad
      obtain ⟨RW, hRW⟩ : ∃ RW, (r.map wI).map PyData.str = RW := ⟨_, rfl⟩
      rw [hRW] at cl st
      unfold l_law_k81_1 at cl
      unfold e_law_k81_2
      simp -implicitDefEqProofs [cl, st, lj, ad, rowT, oneT]
    have st := strs_map (l := f.map rowT)
    have lj : leJ (Str.ofString "") (f.map rowT) := leJ_of (n := 20) (k := 311) (by decide) (by rw [List.length_map]; exact f20) (fun y hy => by
      obtain ⟨r, hr, rfl⟩ := List.mem_map.mp hy
      have := one_len (ok r hr).1 (ok r hr).2
      have ln1 : (Str.ofString "\n").length = 1 := by decide
      rw [rowT, app_len]
      omega) (by omega)
    have hj : Txt.join (Str.ofString "") (f.map rowT) = X := hX
    unfold l_law_k81_2 at c2
    obtain ⟨D, hD⟩ : ∃ D, f.map llD = D := ⟨_, rfl⟩
    obtain ⟨RW, hRW⟩ : ∃ RW, f.map rowT = RW := ⟨_, rfl⟩
    obtain ⟨RD, hRD⟩ : ∃ RD, RW.map PyData.str = RD := ⟨_, rfl⟩
    rw [hRW] at st lj hj c2
    rw [hRD] at st c2
    rw [hD] at e5 c2 t1 t2 t3
    have rg : rangeD 0 3 = [.int 0, .int 1, .int 2] := rfl
    have k0 : bName 6 (.int 0) ⟨[.ob (.scr ns), .val (.int (c)), .raw (.ref pa), .val (.list ((N).map .int)), .val (.list D), .val (.str X), .no, .no, .no, .no, .no, .no], w5⟩ = some ⟨[.ob (.scr ns), .val (.int (c)), .raw (.ref pa), .val (.list ((N).map .int)), .val (.list D), .val (.str X), .val (.int (0)), .no, .no, .no, .no, .no], w5⟩ := rfl
    have k1 : bName 6 (.int 1) ⟨[.ob (.scr ns), .val (.int (c)), .raw (.ref pa), .val (.list ((N).map .int)), .val (.list D), .val (.str x1), .val (.int (0)), b7, b8, b9, b10, .no], w6⟩ = some ⟨[.ob (.scr ns), .val (.int (c)), .raw (.ref pa), .val (.list ((N).map .int)), .val (.list D), .val (.str x1), .val (.int (1)), b7, b8, b9, b10, .no], w6⟩ := rfl
    have k2 : bName 6 (.int 2) ⟨[.ob (.scr ns), .val (.int (c)), .raw (.ref pa), .val (.list ((N).map .int)), .val (.list D), .val (.str x2), .val (.int (1)), c7, c8, c9, c10, .no], w7⟩ = some ⟨[.ob (.scr ns), .val (.int (c)), .raw (.ref pa), .val (.list ((N).map .int)), .val (.list D), .val (.str x2), .val (.int (2)), c7, c8, c9, c10, .no], w7⟩ := rfl
    have lp3 : loopF (bName 6) b_law_k81_4 [.int 0, .int 1, .int 2] ⟨[.ob (.scr ns), .val (.int (c)), .raw (.ref pa), .val (.list ((N).map .int)), .val (.list D), .val (.str X), .no, .no, .no, .no, .no, .no], w5⟩ = .next ⟨[.ob (.scr ns), .val (.int (c)), .raw (.ref pa), .val (.list ((N).map .int)), .val (.list D), .val (.str x3), .val (.int (2)), d7, d8, d9, d10, .no], w8⟩ := by
      rw [loop_cons k0, t1]
      dsimp only
      rw [loop_cons k1, t2]
      dsimp only
      rw [loop_cons k2, t3]
      rfl
    show Nx (b_law_k81_5 ⟨[.ob (.scr ns), .val (.int (c)), .raw (.ref pa), .no, .no, .no, .no, .no, .no, .no, .no, .no], some (pa, pa, [n, g, 0], 0)⟩) (fun s6 => keepZ [.ob (.scr ns), .no, .no, .no, .no, .no, .no, .no, .no, .no, .no, .no] s6.d)
    unfold b_law_k81_5
    simp -implicitDefEqProofs [e1, e2, e4, e5, c2, st, lj, hj, rg, lp3, keepZ]
  have s1 : leS 1 := size_le (by omega)
  have s7 : leS (1 + (ns.take 6).length) := size_le (by rw [List.length_take]; omega)
  have e := y_kForW good
  obtain ⟨Z, hZ⟩ : ∃ Z, Z = ns.take 6 := ⟨_, rfl⟩
  rw [← hZ] at e s7
  rw [List.map_cons] at e
  unfold p_law_k81
  simp -implicitDefEqProofs [s1, s7, ← hZ, e, held_ok]

end DL

noncomputable section
namespace DL
open PySem L2 PyProof.Rows
open Evl (Ex)
namespace K81
def top (i : Nat) : Stmt := PySem.Challenge.pw_ontheline_k81_texts_of_no_folk.main.body.getD i (.Pass ⟨0, 0, 0, 0⟩)
structure Txt (K : PySem.W.Frag) (mg : Str → Option Value) : Prop where
  b_isinstance : mg "isinstance" = none
  b_int : mg "int" = none
  b_bool : mg "bool" = none
  b_len : mg "len" = none
  b_list : mg "list" = none
  b_all : mg "all" = none
  b_set : mg "set" = none
  b_enumerate : mg "enumerate" = none
  b_sorted : mg "sorted" = none
  b_range : mg "range" = none
  b_min : mg "min" = none
  b_max : mg "max" = none
  b_ValueError : mg "ValueError" = none
  b_zip : mg "zip" = none
  b_str : mg "str" = none
  exc : ExGs K mg ["NoText"]
  ox_NoText : OxF K mg "NoText" "NoText.__init__" (inSt (top 10))
  exy_NoBack : ExY K mg ["NoText"] "NoBack"
  exy_NoFall : ExY K mg ["NoText"] "NoFall"
  exy_NoFit : ExY K mg ["NoText"] "NoFit"
  exy_NoFixed : ExY K mg ["NoText"] "NoFixed"
  exy_NoFolk : ExY K mg ["NoText"] "NoFolk"
  exy_NoHand : ExY K mg ["NoText"] "NoHand"
  exy_NoLine : ExY K mg ["NoText"] "NoLine"
  exy_NoNames : ExY K mg ["NoText"] "NoNames"
  exy_NoNumber : ExY K mg ["NoText"] "NoNumber"
  exy_NoPaper : ExY K mg ["NoText"] "NoPaper"
  exy_NoRanking : ExY K mg ["NoText"] "NoRanking"
  exy_NoRow : ExY K mg ["NoText"] "NoRow"
  exy_NoRule : ExY K mg ["NoText"] "NoRule"
  exy_NoTitle : ExY K mg ["NoText"] "NoTitle"
  exy_NoTops : ExY K mg ["NoText"] "NoTops"
  exy_NoTree : ExY K mg ["NoText"] "NoTree"
  exy_NoWeights : ExY K mg ["NoText"] "NoWeights"
  exy_TooGreat : ExY K mg ["NoText"] "TooGreat"
  c_MOST_NAMES : ∃ t, mg "MOST_NAMES" = some (.int 10 t)
  c_MOST_FIGURES : ∃ t, mg "MOST_FIGURES" = some (.int 30 t)
  c_FIGURES : ∃ t, mg "FIGURES" = some (.str "0123456789" t)
  c_MOST_HANDS : ∃ t, mg "MOST_HANDS" = some (.int 20 t)
  d_is_number : Wr K mg "is_number" (top 24) ["thing"]
  d_are_unlike_names : Wr K mg "are_unlike_names" (top 25) ["thing"]
  d_is_ranking : Wr K mg "is_ranking" (top 26) ["thing"]
  d_number_of : Wr K mg "number_of" (top 30) ["word"]
  d_ranking_of : Wr K mg "ranking_of" (top 31) ["word"]
  d_read_ranking : Wr K mg "read_ranking" (top 32) ["word"]
  d_read_folk : Wr K mg "read_folk" (top 33) ["text"]
  d__law_mix : Wr K mg "_law_mix" (top 35) ["_law_number", "_law_k"]
  d__law_left : Wr K mg "_law_left" (top 36) ["_law_cell"]
  d__law_draw : Wr K mg "_law_draw" (top 37) ["_law_left_here", "_law_base"]
  d__law_names : Wr K mg "_law_names" (top 38) ["_law_left_here", "_law_many"]
  d__law_shuffled : Wr K mg "_law_shuffled" (top 39) ["_law_left_here", "_law_things"]
  d__law_tree : Wr K mg "_law_tree" (top 40) ["_law_left_here", "_law_names_here"]
  d__law_falling : Wr K mg "_law_falling" (top 41) ["_law_left_here", "_law_names_here", "_law_tree_here"]
  d__law_folk : Wr K mg "_law_folk" (top 42) ["_law_left_here", "_law_names_here", "_law_tree_here"]
  d__law_marks : Wr K mg "_law_marks" (top 43) ["_law_caught"]
  d__law_figured : Wr K mg "_law_figured" (top 44) ["_law_word"]
  d__law_ranked : Wr K mg "_law_ranked" (top 45) ["_law_word"]
  d__law_folk_of : Wr K mg "_law_folk_of" (top 46) ["_law_text"]
  d__law_told : Wr K mg "_law_told" (top 47) ["_law_way", "_law_text"]
  d__law_bent : Wr K mg "_law_bent" (top 48) ["_law_left_here", "_law_text", "_law_names_here"]
  d__law_refusals_held : Wr K mg "_law_refusals_held" (top 49) []
section
variable {P : Program} {w : World} {K : PySem.W.Frag} {mg : Str → Option Value} {base : Heap} {cl : String → Addr}
theorem wx_NoText (T : Txt K mg) : InitOk P w K mg base "NoText" := init_ok (m := "no text") T.ox_NoText ⟨rfl, rfl, rfl, by decide +kernel, rfl, by decide +kernel, by decide +kernel⟩ fun f cdv A outer s H E => by
  obtain ⟨CF, g, r, v⟩ := T.ox_NoText.bs
  exact pss_cons (ps_expr (pe_clsinit (x := "FolkError") rfl g r v (pa_cons (pe_var (i := 0) rfl (Or.inl rfl)) (pa_cons pe_str pa_nil)))) (pss_one (ps_ost (pe_var (i := 0) rfl (Or.inl rfl)) (pe_var (i := 1) rfl (Or.inl rfl))))
abbrev N_is_number : List Str := ["thing"]
theorem sc_is_number : FnScope N_is_number ["thing"] (defScope (top 24)) := ⟨rfl, rfl, rfl, by decide +kernel, rfl, by decide +kernel, by decide +kernel⟩
theorem w_is_number (T : Txt K mg) : Cal P w K mg base (clOf K) "is_number" 1 ["thing"] F_is_number := by
  have sc := sc_is_number
  refine cal_of T.d_is_number sc (by decide) fun f cdv A outer s H E hr => ?_
  have tk : Takes (cxOf (L2.CX P w) P w K mg base N_is_number "is_number" (defScope (top 24)) f cdv A outer s H E) (fun cls d _ H => E cls d H) := takes_of rfl rfl rfl rfl
  exact ss_one (s_ret (v_and (d_isi (m := "int") (by decide) rfl T.b_isinstance (d_var 0) (pe_bltn rfl T.b_int (by decide +kernel) rfl)) (v_one (v_not (d_isi (m := "bool") (by decide) rfl T.b_isinstance (d_var 0) (pe_bltn rfl T.b_bool (by decide +kernel) rfl))))))
abbrev N_are_unlike_names : List Str := ["thing", "name"]
theorem sc_are_unlike_names : FnScope N_are_unlike_names ["thing"] (defScope (top 25)) := ⟨rfl, rfl, rfl, by decide +kernel, rfl, by decide +kernel, by decide +kernel⟩
theorem w_are_unlike_names (T : Txt K mg)
    (c_is_number : Cal P w K mg base (clOf K) "is_number" 1 ["thing"] F_is_number) : Cal P w K mg base (clOf K) "are_unlike_names" 2 ["thing"] F_are_unlike_names := by
  have sc := sc_are_unlike_names
  refine cal_of T.d_are_unlike_names sc (by decide) fun f cdv A outer s H E hr => ?_
  have tk : Takes (cxOf (L2.CX P w) P w K mg base N_are_unlike_names "are_unlike_names" (defScope (top 25)) f cdv A outer s H E) (fun cls d _ H => E cls d H) := takes_of rfl rfl rfl rfl
  exact ss_cons (s_if (d_tw (w_or (d_tnot (d_tval (d_isi (m := "list") (by decide) rfl T.b_isinstance (d_var 0) (pe_bltn rfl T.b_list (by decide +kernel) rfl)))) (w_or1 (d_tnot (d_tval (d_callB (cr_all rfl) cd_all rfl T.b_all (by decide +kernel) (ap_cons (d_lc rfl sc.nd (own := [("name", 1)]) (i_list (d_var 0)) (blkOk_by (own := [("name", 1)]) (N := N_are_unlike_names) (sc := defScope (top 25)) (by decide +kernel)) (g_name 1) (by decide) (fun _ _ _ _ _ => pg_name (i := 1) sc.nd rfl (by first | exact Or.inl rfl | exact Or.inr rfl)) (fun _ _ _ _ _ => dts_nil) (fun _ _ _ _ _ => v_and (d_cal c_is_number (hr.mono (by decide)) passA0 (ae_cons (d_var 1) ae_nil)) (v_one (d_ge (d_var 1) d_int)))) ap_nil))))))) (ss_one (s_ret d_bl)) ss_nil) (ss_one (s_ret (d_eq hr.units (d_lenSet rfl rfl T.b_len rfl T.b_set (d_var 0)) (d_callB (CallR.or' call_len_seq call_len_str) cd_len rfl T.b_len (by decide +kernel) (ap_cons (d_var 0) ap_nil)))))
abbrev N_is_ranking : List Str := ["thing"]
theorem sc_is_ranking : FnScope N_is_ranking ["thing"] (defScope (top 26)) := ⟨rfl, rfl, rfl, by decide +kernel, rfl, by decide +kernel, by decide +kernel⟩
theorem w_is_ranking (T : Txt K mg)
    (c_are_unlike_names : Cal P w K mg base (clOf K) "are_unlike_names" 2 ["thing"] F_are_unlike_names) : Cal P w K mg base (clOf K) "is_ranking" 3 ["thing"] F_is_ranking := by
  obtain ⟨t_MOST_NAMES, k_MOST_NAMES⟩ := T.c_MOST_NAMES
  have sc := sc_is_ranking
  refine cal_of T.d_is_ranking sc (by decide) fun f cdv A outer s H E hr => ?_
  have tk : Takes (cxOf (L2.CX P w) P w K mg base N_is_ranking "is_ranking" (defScope (top 26)) f cdv A outer s H E) (fun cls d _ H => E cls d H) := takes_of rfl rfl rfl rfl
  exact ss_one (s_ret (v_and (d_cal c_are_unlike_names (hr.mono (by decide)) (passAt tk) (ae_cons (d_var 0) ae_nil)) (v_and (d_gt (d_callB (CallR.or' call_len_seq call_len_str) cd_len rfl T.b_len (by decide +kernel) (ap_cons (d_var 0) ap_nil)) d_int) (v_one (d_le (d_callB (CallR.or' call_len_seq call_len_str) cd_len rfl T.b_len (by decide +kernel) (ap_cons (d_var 0) ap_nil)) (d_globI rfl k_MOST_NAMES))))))
abbrev N_number_of : List Str := ["word", "sign"]
theorem sc_number_of : FnScope N_number_of ["word"] (defScope (top 30)) := ⟨rfl, rfl, rfl, by decide +kernel, rfl, by decide +kernel, by decide +kernel⟩
theorem w_number_of (T : Txt K mg) : Cal P w K mg base (clOf K) "number_of" 1 ["word"] F_number_of_v2 := by
  obtain ⟨t_FIGURES, k_FIGURES⟩ := T.c_FIGURES
  obtain ⟨t_MOST_FIGURES, k_MOST_FIGURES⟩ := T.c_MOST_FIGURES
  have sc := sc_number_of
  refine cal_of T.d_number_of sc (by decide) fun f cdv A outer s H E hr => ?_
  have tk : Takes (cxOf (L2.CX P w) P w K mg base N_number_of "number_of" (defScope (top 30)) f cdv A outer s H E) (fun cls d _ H => E cls d H) := takes_of rfl rfl rfl rfl
  exact ss_cons (s_if (d_tw (w_or (t_eq hr.units (d_var 0) d_str) (w_or (t_gt (d_callB (CallR.or' call_len_seq call_len_str) cd_len rfl T.b_len (by decide +kernel) (ap_cons (d_var 0) ap_nil)) (d_globI rfl k_MOST_FIGURES)) (w_or1 (d_tnot (d_tval (d_callB (cr_all rfl) cd_all rfl T.b_all (by decide +kernel) (ap_cons (d_lc rfl sc.nd (own := [("sign", 1)]) (i_str (d_var 0)) (blkOk_by (own := [("sign", 1)]) (N := N_number_of) (sc := defScope (top 30)) (by decide +kernel)) (g_name 1) (by decide) (fun _ _ _ _ _ => pg_name (i := 1) sc.nd rfl (by first | exact Or.inl rfl | exact Or.inr rfl)) (fun _ _ _ _ _ => dts_nil) (fun _ _ _ _ _ => d_sgIn (by rfl) (d_var 1) (d_globS rfl k_FIGURES))) ap_nil)))))))) (ss_one (s_ret d_non)) ss_nil) (ss_cons (s_if (d_tw (w_and (t_eq hr.units (d_ix (d_var 0) d_int (fun _ _ => rfl)) d_str) (w_and1 (t_ne hr.units (d_var 0) d_str)))) (ss_one (s_ret d_non)) ss_nil) (ss_one (s_ret (d_callTy call_int_str cd_intT rfl T.b_int (by decide +kernel) (ap_cons (d_var 0) ap_nil)))))
abbrev N_ranking_of : List Str := ["word", "found", "part"]
theorem sc_ranking_of : FnScope N_ranking_of ["word"] (defScope (top 31)) := ⟨rfl, rfl, rfl, by decide +kernel, rfl, by decide +kernel, by decide +kernel⟩
theorem w_ranking_of (T : Txt K mg)
    (c_is_ranking : Cal P w K mg base (clOf K) "is_ranking" 3 ["thing"] F_is_ranking)
    (c_number_of : Cal P w K mg base (clOf K) "number_of" 1 ["word"] F_number_of_v2) : Cal P w K mg base (clOf K) "ranking_of" 4 ["word"] F_ranking_of_v3 := by
  have sc := sc_ranking_of
  refine cal_of T.d_ranking_of sc (by decide) fun f cdv A outer s H E hr => ?_
  have tk : Takes (cxOf (L2.CX P w) P w K mg base N_ranking_of "ranking_of" (defScope (top 31)) f cdv A outer s H E) (fun cls d _ H => E cls d H) := takes_of rfl rfl rfl rfl
  exact ss_cons (s_setLc (i := 1) rfl sc.nd rfl rfl (sw_true rfl rfl rfl (by decide +kernel)) (own := [("part", 2)]) (i_list (d_split (d_var 0) d_str)) (blkOk_by (own := [("part", 2)]) (N := N_ranking_of) (sc := defScope (top 31)) (by decide +kernel)) (g_name 2) (by decide) (fun _ _ _ _ _ => pg_name (i := 2) sc.nd rfl (by first | exact Or.inl rfl | exact Or.inr rfl)) (fun _ _ _ _ _ => dts_nil) (fun _ _ _ _ _ => d_cal c_number_of (hr.mono (by decide)) passA0 (ae_cons (d_var 2) ae_nil))) (ss_cons (s_if (d_tw (w_or (t_in hr.units (by rfl) d_non (d_var 1)) (w_or1 (d_tnot (d_tval (d_calP c_is_ranking (hr.mono (by decide)) (passAt tk) (ap_cons (d_var 1) ap_nil))))))) (ss_one (s_ret d_non)) ss_nil) (ss_one (s_ret (d_var 1))))
abbrev N_read_ranking : List Str := ["word", "found"]
theorem sc_read_ranking : FnScope N_read_ranking ["word"] (defScope (top 32)) := ⟨rfl, rfl, rfl, by decide +kernel, rfl, by decide +kernel, by decide +kernel⟩
theorem w_read_ranking (T : Txt K mg)
    (c_ranking_of : Cal P w K mg base (clOf K) "ranking_of" 4 ["word"] F_ranking_of_v3) : Cal P w K mg base (clOf K) "read_ranking" 5 ["word"] F_read_ranking_v9 := by
  have sc := sc_read_ranking
  refine cal_of T.d_read_ranking sc (by decide) fun f cdv A outer s H E hr => ?_
  have tk : Takes (cxOf (L2.CX P w) P w K mg base N_read_ranking "read_ranking" (defScope (top 32)) f cdv A outer s H E) (fun cls d _ H => E cls d H) := takes_of rfl rfl rfl rfl
  exact ss_cons (s_set (i := 1) sc.nd rfl (by first | exact Or.inl rfl | exact Or.inr rfl) (d_cal c_ranking_of (hr.mono (by decide)) (passAt tk) (ae_cons (d_var 0) ae_nil))) (ss_cons (s_if (t_isN (d_var 1)) (ss_one (s_raiseA (n := "NoText") (wx_NoText (P := P) (w := w) (base := base) T) rfl (hr.room.mono (by decide)) rfl tk rfl rfl d_int)) ss_nil) (ss_one (s_ret (d_var 1))))
abbrev N_read_folk : List Str := ["text", "rows", "found", "row", "word", "ranking"]
theorem sc_read_folk : FnScope N_read_folk ["text"] (defScope (top 33)) := ⟨rfl, rfl, rfl, by decide +kernel, rfl, by decide +kernel, by decide +kernel⟩
theorem w_read_folk (T : Txt K mg)
    (c_ranking_of : Cal P w K mg base (clOf K) "ranking_of" 4 ["word"] F_ranking_of_v3) : Cal P w K mg base (clOf K) "read_folk" 5 ["text"] F_read_folk_v6 := by
  obtain ⟨t_MOST_HANDS, k_MOST_HANDS⟩ := T.c_MOST_HANDS
  have sc := sc_read_folk
  refine cal_of T.d_read_folk sc (by decide) fun f cdv A outer s H E hr => ?_
  have tk : Takes (cxOf (L2.CX P w) P w K mg base N_read_folk "read_folk" (defScope (top 33)) f cdv A outer s H E) (fun cls d _ H => E cls d H) := takes_of rfl rfl rfl rfl
  exact ss_cons (s_set (i := 1) sc.nd rfl (by first | exact Or.inl rfl | exact Or.inr rfl) (d_split (d_var 0) d_str)) (ss_cons (s_set (i := 2) sc.nd rfl (by first | exact Or.inl rfl | exact Or.inr rfl) (d_lst ae_nil)) (ss_cons (s_for (passes_of rfl) rfl (i_enum rfl T.b_enumerate (ae_cons (d_slice (d_var 1) dp_none (dp_some (d_neg d_int))) ae_nil)) (pg_tup rfl (pgs_cons (pg_name (i := 3) sc.nd rfl (by first | exact Or.inl rfl | exact Or.inr rfl)) (pgs_cons (pg_name (i := 4) sc.nd rfl (by first | exact Or.inl rfl | exact Or.inr rfl)) pgs_nil))) (g_tup (n := 2) (g_cons (g_name 3) (g_cons (g_name 4) g_nil))) (ss_cons (s_set (i := 5) sc.nd rfl (by first | exact Or.inl rfl | exact Or.inr rfl) (d_cal c_ranking_of (hr.mono (by decide)) (passAt tk) (ae_cons (d_var 4) ae_nil))) (ss_cons (s_if (d_tw (w_or (t_isN (d_var 5)) (w_or (t_ge (d_var 3) (d_globI rfl k_MOST_HANDS)) (w_or1 (d_tw (w_and (t_ne hr.units (d_var 2) (d_lst ae_nil)) (w_and1 (t_ne hr.units (d_callB (CallR.or' cr_sortedI (cr_sortedD hr.units)) cd_sorted rfl T.b_sorted (by decide +kernel) (ap_cons (d_var 5) ap_nil)) (d_callB (CallR.or' cr_sortedI (cr_sortedD hr.units)) cd_sorted rfl T.b_sorted (by decide +kernel) (ap_cons (d_ix (d_var 2) d_int (fun _ _ => rfl)) ap_nil)))))))))) (ss_one (s_raiseA (n := "NoText") (wx_NoText (P := P) (w := w) (base := base) T) rfl (hr.room.mono (by decide)) rfl tk rfl rfl (d_var 3))) ss_nil) (ss_one (s_expr (d_append (pv 2) (d_var 5))))))) (ss_cons (s_if (d_tw (w_or (t_ne hr.units (d_ix (d_var 1) (d_neg d_int) (fun _ _ => rfl)) d_str) (w_or1 (t_eq hr.units (d_var 2) (d_lst ae_nil))))) (ss_one (s_raiseA (n := "NoText") (wx_NoText (P := P) (w := w) (base := base) T) rfl (hr.room.mono (by decide)) rfl tk rfl rfl (d_sub (d_callB (CallR.or' call_len_seq call_len_str) cd_len rfl T.b_len (by decide +kernel) (ap_cons (d_var 1) ap_nil)) d_int))) ss_nil) (ss_one (s_ret (d_var 2))))))
abbrev N__law_mix : List Str := ["_law_number", "_law_k", "_law_mixed"]
theorem sc__law_mix : FnScope N__law_mix ["_law_number", "_law_k"] (defScope (top 35)) := ⟨rfl, rfl, rfl, by decide +kernel, rfl, by decide +kernel, by decide +kernel⟩
theorem w__law_mix (T : Txt K mg) : Cal P w K mg base (clOf K) "_law_mix" 1 ["_law_number", "_law_k"] F_law_mix := by
  have sc := sc__law_mix
  refine cal_of T.d__law_mix sc (by decide) fun f cdv A outer s H E hr => ?_
  have tk : Takes (cxOf (L2.CX P w) P w K mg base N__law_mix "_law_mix" (defScope (top 35)) f cdv A outer s H E) (fun cls d _ H => E cls d H) := takes_of rfl rfl rfl rfl
  exact ss_cons (s_set (i := 2) sc.nd rfl (by first | exact Or.inl rfl | exact Or.inr rfl) (d_mod (d_mul (d_add (d_add (d_mul (d_var 0) (d_var 0)) (d_mul (d_var 1) (d_var 0))) (d_mul (d_mul d_int (d_var 1)) (d_var 1))) d_int) d_int)) (ss_one (s_ret (d_mod (d_mul (d_var 2) (d_var 2)) d_int)))
abbrev N__law_left : List Str := ["_law_cell"]
theorem sc__law_left : FnScope N__law_left ["_law_cell"] (defScope (top 36)) := ⟨rfl, rfl, rfl, by decide +kernel, rfl, by decide +kernel, by decide +kernel⟩
theorem w__law_left (T : Txt K mg) : Cal P w K mg base (clOf K) "_law_left" 1 ["_law_cell"] F_law_left := by
  have sc := sc__law_left
  refine cal_of T.d__law_left sc (by decide) fun f cdv A outer s H E hr => ?_
  have tk : Takes (cxOf (L2.CX P w) P w K mg base N__law_left "_law_left" (defScope (top 36)) f cdv A outer s H E) (fun cls d _ H => E cls d H) := takes_of rfl rfl rfl rfl
  exact ss_cons (s_if (t_lt (d_var 0) (d_pow d_int d_int)) (ss_one (s_ret (d_lst (ae_cons (d_mod (d_var 0) d_int) (ae_cons d_int (ae_cons d_int ae_nil)))))) ss_nil) (ss_one (s_ret (d_lst (ae_cons (d_mod (d_sub (d_var 0) (d_pow d_int d_int)) (d_pow (d_pow (d_pow d_int d_int) d_int) d_int)) (ae_cons d_int (ae_cons d_int ae_nil))))))
abbrev N__law_draw : List Str := ["_law_left_here", "_law_base", "_law_mixed", "_law_digit"]
theorem sc__law_draw : FnScope N__law_draw ["_law_left_here", "_law_base"] (defScope (top 37)) := ⟨rfl, rfl, rfl, by decide +kernel, rfl, by decide +kernel, by decide +kernel⟩
theorem w__law_draw (T : Txt K mg)
    (c__law_mix : Cal P w K mg base (clOf K) "_law_mix" 1 ["_law_number", "_law_k"] F_law_mix) : Cal P w K mg base (clOf K) "_law_draw" 2 ["_law_left_here", "_law_base"] F_law_draw_v3 := by
  have sc := sc__law_draw
  refine cal_of T.d__law_draw sc (by decide) fun f cdv A outer s H E hr => ?_
  have tk : Takes (cxOf (L2.CX P w) P w K mg base N__law_draw "_law_draw" (defScope (top 37)) f cdv A outer s H E) (fun cls d _ H => E cls d H) := takes_of rfl rfl rfl rfl
  exact ss_cons (s_setC (d_add (d_ixC (pv 0) d_int (fun _ _ => rfl)) d_int) (pv 0) d_int) (ss_cons (s_if (t_eq hr.units (d_ixC (pv 0) d_int (fun _ _ => rfl)) d_int) (ss_cons (s_set (i := 2) sc.nd rfl (by first | exact Or.inl rfl | exact Or.inr rfl) (d_cal c__law_mix (hr.mono (by decide)) (passAt tk) (ae_cons (d_ixC (pv 0) d_int (fun _ _ => rfl)) (ae_cons (d_ixC (pv 0) d_int (fun _ _ => rfl)) ae_nil)))) (ss_cons (s_if (t_gt (d_var 1) (d_pow d_int d_int)) (ss_one (s_ret (d_mod (d_mul (d_var 2) (d_add (d_pow (d_cal c__law_mix (hr.mono (by decide)) (passAt tk) (ae_cons (d_ixC (pv 0) d_int (fun _ _ => rfl)) (ae_cons (d_add (d_ixC (pv 0) d_int (fun _ _ => rfl)) d_int) ae_nil))) d_int) d_int)) (d_var 1)))) ss_nil) (ss_one (s_ret (d_mod (d_mod (d_mul (d_var 2) (d_add (d_var 2) d_int)) d_int) (d_var 1)))))) ss_nil) (ss_cons (s_set (i := 3) sc.nd rfl (by first | exact Or.inl rfl | exact Or.inr rfl) (d_mod (d_ixC (pv 0) d_int (fun _ _ => rfl)) (d_var 1))) (ss_cons (s_setC (d_fdiv (d_ixC (pv 0) d_int (fun _ _ => rfl)) (d_var 1)) (pv 0) d_int) (ss_one (s_ret (d_var 3))))))
abbrev N__law_names : List Str := ["_law_left_here", "_law_many", "_law_far", "_law_found", "_law_last", "_law_k"]
theorem sc__law_names : FnScope N__law_names ["_law_left_here", "_law_many"] (defScope (top 38)) := ⟨rfl, rfl, rfl, by decide +kernel, rfl, by decide +kernel, by decide +kernel⟩
theorem w__law_names (T : Txt K mg)
    (c__law_draw : Cal P w K mg base (clOf K) "_law_draw" 2 ["_law_left_here", "_law_base"] F_law_draw_v3) : Cal P w K mg base (clOf K) "_law_names" 3 ["_law_left_here", "_law_many"] F_law_names_v6 := by
  have sc := sc__law_names
  refine cal_of T.d__law_names sc (by decide) fun f cdv A outer s H E hr => ?_
  have tk : Takes (cxOf (L2.CX P w) P w K mg base N__law_names "_law_names" (defScope (top 38)) f cdv A outer s H E) (fun cls d _ H => E cls d H) := takes_of rfl rfl rfl rfl
  exact ss_cons (s_set (i := 2) sc.nd rfl (by first | exact Or.inl rfl | exact Or.inr rfl) (d_ix (d_lst (ae_cons d_int (ae_cons d_int (ae_cons d_int (ae_cons (d_pow d_int d_int) ae_nil))))) (d_cal c__law_draw (hr.mono (by decide)) (passAt tk) (ae_cons (d_var 0) (ae_cons d_int ae_nil))) (fun _ _ => rfl))) (ss_cons (s_set (i := 3) sc.nd rfl (by first | exact Or.inl rfl | exact Or.inr rfl) (d_lst ae_nil)) (ss_cons (s_set (i := 4) sc.nd rfl (by first | exact Or.inl rfl | exact Or.inr rfl) (d_neg d_int)) (ss_cons (s_for (passes_of rfl) rfl (i_range1 rfl T.b_range (ap_cons (d_var 1) ap_nil)) (pg_name (i := 5) sc.nd rfl (by first | exact Or.inl rfl | exact Or.inr rfl)) (g_name 5) (ss_cons (s_set (i := 4) sc.nd rfl (by first | exact Or.inl rfl | exact Or.inr rfl) (d_add (d_add (d_var 4) d_int) (d_cal c__law_draw (hr.mono (by decide)) (passAt tk) (ae_cons (d_var 0) (ae_cons (d_var 2) ae_nil))))) (ss_one (s_expr (d_append (pv 3) (d_var 4)))))) (ss_one (s_ret (d_var 3))))))
abbrev N__law_shuffled : List Str := ["_law_left_here", "_law_things", "_law_found", "_law_thing"]
theorem sc__law_shuffled : FnScope N__law_shuffled ["_law_left_here", "_law_things"] (defScope (top 39)) := ⟨rfl, rfl, rfl, by decide +kernel, rfl, by decide +kernel, by decide +kernel⟩
theorem w__law_shuffled (T : Txt K mg)
    (c__law_draw : Cal P w K mg base (clOf K) "_law_draw" 2 ["_law_left_here", "_law_base"] F_law_draw_v3) : Cal P w K mg base (clOf K) "_law_shuffled" 3 ["_law_left_here", "_law_things"] F_law_shuffled_v3 := by
  have sc := sc__law_shuffled
  refine cal_of T.d__law_shuffled sc (by decide) fun f cdv A outer s H E hr => ?_
  have tk : Takes (cxOf (L2.CX P w) P w K mg base N__law_shuffled "_law_shuffled" (defScope (top 39)) f cdv A outer s H E) (fun cls d _ H => E cls d H) := takes_of rfl rfl rfl rfl
  exact ss_cons (s_set (i := 2) sc.nd rfl (by first | exact Or.inl rfl | exact Or.inr rfl) (d_lst ae_nil)) (ss_cons (s_for (passes_of rfl) rfl (i_list (d_var 1)) (pg_name (i := 3) sc.nd rfl (by first | exact Or.inl rfl | exact Or.inr rfl)) (g_name 3) (ss_one (s_expr (d_insert (pv 2) (ae_cons (d_cal c__law_draw (hr.mono (by decide)) (passAt tk) (ae_cons (d_var 0) (ae_cons (d_add (d_callB (CallR.or' call_len_seq call_len_str) cd_len rfl T.b_len (by decide +kernel) (ap_cons (d_var 2) ap_nil)) d_int) ae_nil))) (ae_cons (d_var 3) ae_nil)))))) (ss_one (s_ret (d_var 2))))
abbrev N__law_tree : List Str := ["_law_left_here", "_law_names_here", "_law_order", "_law_way", "_law_found", "_law_k", "_law_other"]
theorem sc__law_tree : FnScope N__law_tree ["_law_left_here", "_law_names_here"] (defScope (top 40)) := ⟨rfl, rfl, rfl, by decide +kernel, rfl, by decide +kernel, by decide +kernel⟩
theorem w__law_tree (T : Txt K mg)
    (c__law_draw : Cal P w K mg base (clOf K) "_law_draw" 2 ["_law_left_here", "_law_base"] F_law_draw_v3)
    (c__law_shuffled : Cal P w K mg base (clOf K) "_law_shuffled" 3 ["_law_left_here", "_law_things"] F_law_shuffled_v3) : Cal P w K mg base (clOf K) "_law_tree" 4 ["_law_left_here", "_law_names_here"] F_law_tree_v2 := by
  have sc := sc__law_tree
  refine cal_of T.d__law_tree sc (by decide) fun f cdv A outer s H E hr => ?_
  have tk : Takes (cxOf (L2.CX P w) P w K mg base N__law_tree "_law_tree" (defScope (top 40)) f cdv A outer s H E) (fun cls d _ H => E cls d H) := takes_of rfl rfl rfl rfl
  exact ss_cons (s_set (i := 2) sc.nd rfl (by first | exact Or.inl rfl | exact Or.inr rfl) (d_cal c__law_shuffled (hr.mono (by decide)) (passAt tk) (ae_cons (d_var 0) (ae_cons (d_var 1) ae_nil)))) (ss_cons (s_set (i := 3) sc.nd rfl (by first | exact Or.inl rfl | exact Or.inr rfl) (d_cal c__law_draw (hr.mono (by decide)) (passAt tk) (ae_cons (d_var 0) (ae_cons d_int ae_nil)))) (ss_cons (s_set (i := 4) sc.nd rfl (by first | exact Or.inl rfl | exact Or.inr rfl) (d_lst ae_nil)) (ss_cons (s_for (passes_of rfl) rfl (i_range2 rfl T.b_range (ap_cons d_int (ap_cons (d_callB (CallR.or' call_len_seq call_len_str) cd_len rfl T.b_len (by decide +kernel) (ap_cons (d_var 2) ap_nil)) ap_nil))) (pg_name (i := 5) sc.nd rfl (by first | exact Or.inl rfl | exact Or.inr rfl)) (g_name 5) (ss_cons (s_set (i := 6) sc.nd rfl (by first | exact Or.inl rfl | exact Or.inr rfl) (d_ix (d_var 2) (d_ix (d_lst (ae_cons (d_cal c__law_draw (hr.mono (by decide)) (passAt tk) (ae_cons (d_var 0) (ae_cons (d_var 5) ae_nil))) (ae_cons (d_sub (d_var 5) d_int) (ae_cons d_int ae_nil)))) (d_var 3) (fun _ _ => rfl)) (fun _ _ => rfl))) (ss_one (s_expr (d_append (pv 4) (d_tup (ae_cons (d_callB (CallR.or' (cr_min rfl) (call_min2 rfl)) cd_min rfl T.b_min (by decide +kernel) (ap_cons (d_ix (d_var 2) (d_var 5) (fun _ _ => rfl)) (ap_cons (d_var 6) ap_nil))) (ae_cons (d_callB (CallR.or' (cr_max rfl) (call_max2 rfl)) cd_max rfl T.b_max (by decide +kernel) (ap_cons (d_ix (d_var 2) (d_var 5) (fun _ _ => rfl)) (ap_cons (d_var 6) ap_nil))) ae_nil)))))))) (ss_one (s_ret (d_callB (CallR.or' cr_sortedI (cr_sortedD hr.units)) cd_sorted rfl T.b_sorted (by decide +kernel) (ap_cons (d_var 4) ap_nil)))))))
abbrev N__law_falling : List Str := ["_law_left_here", "_law_names_here", "_law_tree_here", "_law_found", "_law_near", "_law_one", "_law_other"]
theorem sc__law_falling : FnScope N__law_falling ["_law_left_here", "_law_names_here", "_law_tree_here"] (defScope (top 41)) := ⟨rfl, rfl, rfl, by decide +kernel, rfl, by decide +kernel, by decide +kernel⟩
theorem w__law_falling (T : Txt K mg)
    (c__law_draw : Cal P w K mg base (clOf K) "_law_draw" 2 ["_law_left_here", "_law_base"] F_law_draw_v3) : Cal P w K mg base (clOf K) "_law_falling" 3 ["_law_left_here", "_law_names_here", "_law_tree_here"] F_law_falling_v3 := by
  have sc := sc__law_falling
  refine cal_of T.d__law_falling sc (by decide) fun f cdv A outer s H E hr => ?_
  have tk : Takes (cxOf (L2.CX P w) P w K mg base N__law_falling "_law_falling" (defScope (top 41)) f cdv A outer s H E) (fun cls d _ H => E cls d H) := takes_of rfl rfl rfl rfl
  exact ss_cons (s_set (i := 3) sc.nd rfl (by first | exact Or.inl rfl | exact Or.inr rfl) (d_lst (ae_cons (d_ix (d_var 1) (d_cal c__law_draw (hr.mono (by decide)) (passAt tk) (ae_cons (d_var 0) (ae_cons (d_callB (CallR.or' call_len_seq call_len_str) cd_len rfl T.b_len (by decide +kernel) (ap_cons (d_var 1) ap_nil)) ae_nil))) (fun _ _ => rfl)) ae_nil))) (ss_cons (s_while 10000 (passes_of rfl) (t_lt (d_callB (CallR.or' call_len_seq call_len_str) cd_len rfl T.b_len (by decide +kernel) (ap_cons (d_var 3) ap_nil)) (d_callB (CallR.or' call_len_seq call_len_str) cd_len rfl T.b_len (by decide +kernel) (ap_cons (d_var 1) ap_nil))) (ss_cons (s_set (i := 4) sc.nd rfl (by first | exact Or.inl rfl | exact Or.inr rfl) (d_lst ae_nil)) (ss_cons (s_for (passes_of rfl) rfl (i_list (d_var 2)) (pg_tup rfl (pgs_cons (pg_name (i := 5) sc.nd rfl (by first | exact Or.inl rfl | exact Or.inr rfl)) (pgs_cons (pg_name (i := 6) sc.nd rfl (by first | exact Or.inl rfl | exact Or.inr rfl)) pgs_nil))) (g_tup (n := 2) (g_cons (g_name 5) (g_cons (g_name 6) g_nil))) (ss_one (s_if (t_ne hr.units (d_in hr.units (by rfl) (d_var 5) (d_var 3)) (d_in hr.units (by rfl) (d_var 6) (d_var 3))) (ss_one (s_expr (d_append (pv 4) (d_ix (d_lst (ae_cons (d_var 5) (ae_cons (d_var 6) ae_nil))) (d_callTy call_int1 cd_int rfl T.b_int (by decide +kernel) (ap_cons (d_in hr.units (by rfl) (d_var 5) (d_var 3)) ap_nil)) (fun _ _ => rfl))))) ss_nil))) (ss_one (s_expr (d_append (pv 3) (d_ix (d_var 4) (d_cal c__law_draw (hr.mono (by decide)) (passAt tk) (ae_cons (d_var 0) (ae_cons (d_callB (CallR.or' call_len_seq call_len_str) cd_len rfl T.b_len (by decide +kernel) (ap_cons (d_var 4) ap_nil)) ae_nil))) (fun _ _ => rfl)))))))) (ss_one (s_ret (d_var 3))))
abbrev N__law_folk : List Str := ["_law_left_here", "_law_names_here", "_law_tree_here", "_law_way", "_law_folk_here", "_law_hand", "_law_ranking", "_law_at"]
theorem sc__law_folk : FnScope N__law_folk ["_law_left_here", "_law_names_here", "_law_tree_here"] (defScope (top 42)) := ⟨rfl, rfl, rfl, by decide +kernel, rfl, by decide +kernel, by decide +kernel⟩
theorem w__law_folk (T : Txt K mg)
    (c__law_draw : Cal P w K mg base (clOf K) "_law_draw" 2 ["_law_left_here", "_law_base"] F_law_draw_v3)
    (c__law_shuffled : Cal P w K mg base (clOf K) "_law_shuffled" 3 ["_law_left_here", "_law_things"] F_law_shuffled_v3)
    (c__law_falling : Cal P w K mg base (clOf K) "_law_falling" 3 ["_law_left_here", "_law_names_here", "_law_tree_here"] F_law_falling_v3) : Cal P w K mg base (clOf K) "_law_folk" 4 ["_law_left_here", "_law_names_here", "_law_tree_here"] F_law_folk_v14 := by
  have sc := sc__law_folk
  refine cal_of T.d__law_folk sc (by decide) fun f cdv A outer s H E hr => ?_
  have tk : Takes (cxOf (L2.CX P w) P w K mg base N__law_folk "_law_folk" (defScope (top 42)) f cdv A outer s H E) (fun cls d _ H => E cls d H) := takes_of rfl rfl rfl rfl
  exact ss_cons (s_set (i := 3) sc.nd rfl (by first | exact Or.inl rfl | exact Or.inr rfl) (d_cal c__law_draw (hr.mono (by decide)) (passAt tk) (ae_cons (d_var 0) (ae_cons d_int ae_nil)))) (ss_cons (s_set (i := 4) sc.nd rfl (by first | exact Or.inl rfl | exact Or.inr rfl) (d_lst ae_nil)) (ss_cons (s_for (passes_of rfl) rfl (i_range1 rfl T.b_range (ap_cons (d_add d_int (d_cal c__law_draw (hr.mono (by decide)) (passAt tk) (ae_cons (d_var 0) (ae_cons (d_ix (d_lst (ae_cons d_int (ae_cons d_int (ae_cons d_int ae_nil)))) (d_cal c__law_draw (hr.mono (by decide)) (passAt tk) (ae_cons (d_var 0) (ae_cons d_int ae_nil))) (fun _ _ => rfl)) ae_nil)))) ap_nil)) (pg_name (i := 5) sc.nd rfl (by first | exact Or.inl rfl | exact Or.inr rfl)) (g_name 5) (ss_cons (s_set (i := 6) sc.nd rfl (by first | exact Or.inl rfl | exact Or.inr rfl) (d_cal c__law_falling (hr.mono (by decide)) (passAt tk) (ae_cons (d_var 0) (ae_cons (d_var 1) (ae_cons (d_var 2) ae_nil))))) (ss_cons (s_if (d_tw (w_and (t_eq hr.units (d_var 3) d_int) (w_and (t_gt (d_callB (CallR.or' call_len_seq call_len_str) cd_len rfl T.b_len (by decide +kernel) (ap_cons (d_var 1) ap_nil)) d_int) (w_and1 (t_eq hr.units (d_cal c__law_draw (hr.mono (by decide)) (passAt tk) (ae_cons (d_var 0) (ae_cons d_int ae_nil))) d_int))))) (ss_cons (s_set (i := 7) sc.nd rfl (by first | exact Or.inl rfl | exact Or.inr rfl) (d_cal c__law_draw (hr.mono (by decide)) (passAt tk) (ae_cons (d_var 0) (ae_cons (d_sub (d_callB (CallR.or' call_len_seq call_len_str) cd_len rfl T.b_len (by decide +kernel) (ap_cons (d_var 1) ap_nil)) d_int) ae_nil)))) (ss_one (s_swap (i := 6) rfl (d_tup (ae_cons (d_ix (d_var 6) (d_add (d_var 7) d_int) (fun _ _ => rfl)) (ae_cons (d_ix (d_var 6) (d_var 7) (fun _ _ => rfl)) ae_nil))) (pv 6) (d_var 7) (pv 6) (d_add (d_var 7) d_int)))) ss_nil) (ss_cons (s_if (t_eq hr.units (d_var 3) d_int) (ss_one (s_set (i := 6) sc.nd rfl (by first | exact Or.inl rfl | exact Or.inr rfl) (d_cal c__law_shuffled (hr.mono (by decide)) (passAt tk) (ae_cons (d_var 0) (ae_cons (d_var 1) ae_nil))))) ss_nil) (ss_cons (s_if (d_tw (w_and (t_ne hr.units (d_var 4) (d_lst ae_nil)) (w_and1 (t_eq hr.units (d_cal c__law_draw (hr.mono (by decide)) (passAt tk) (ae_cons (d_var 0) (ae_cons d_int ae_nil))) d_int)))) (ss_one (s_set (i := 6) sc.nd rfl (by first | exact Or.inl rfl | exact Or.inr rfl) (d_callTy call_list_of cd_list rfl T.b_list (by decide +kernel) (ap_cons (d_ix (d_var 4) (d_cal c__law_draw (hr.mono (by decide)) (passAt tk) (ae_cons (d_var 0) (ae_cons (d_callB (CallR.or' call_len_seq call_len_str) cd_len rfl T.b_len (by decide +kernel) (ap_cons (d_var 4) ap_nil)) ae_nil))) (fun _ _ => rfl)) ap_nil)))) ss_nil) (ss_one (s_expr (d_append (pv 4) (d_var 6))))))))) (ss_one (s_ret (d_var 4)))))
abbrev N__law_marks : List Str := ["_law_caught", "_law_hits", "_law_words", "_law_found", "_law_word", "_law_hit"]
theorem sc__law_marks : FnScope N__law_marks ["_law_caught"] (defScope (top 43)) := ⟨rfl, rfl, rfl, by decide +kernel, rfl, by decide +kernel, by decide +kernel⟩
theorem w__law_marks (T : Txt K mg) : Cal P w K mg base (clOf K) "_law_marks" 1 ["_law_caught"] F_law_marks_v11 := by
  have sc := sc__law_marks
  refine cal_of T.d__law_marks sc (by decide) fun f cdv A outer s H E hr => ?_
  have tk : Takes (cxOf (L2.CX P w) P w K mg base N__law_marks "_law_marks" (defScope (top 43)) f cdv A outer s H E) (fun cls d _ H => E cls d H) := takes_of rfl rfl rfl rfl
  exact ss_cons (s_set (i := 1) sc.nd rfl (by first | exact Or.inl rfl | exact Or.inr rfl) (d_lst (ae_cons (d_isYA (ns := ["NoText"]) (m := "NoRanking") T.exc T.exy_NoRanking rfl T.b_isinstance (d_var 0) (pe_glob (v := .ref (clOf K "NoRanking")) rfl T.exy_NoRanking.g rfl)) (ae_cons (d_isYA (ns := ["NoText"]) (m := "NoFolk") T.exc T.exy_NoFolk rfl T.b_isinstance (d_var 0) (pe_glob (v := .ref (clOf K "NoFolk")) rfl T.exy_NoFolk.g rfl)) (ae_cons (d_isYA (ns := ["NoText"]) (m := "NoNames") T.exc T.exy_NoNames rfl T.b_isinstance (d_var 0) (pe_glob (v := .ref (clOf K "NoNames")) rfl T.exy_NoNames.g rfl)) ae_nil))))) (ss_cons (s_set (i := 1) sc.nd rfl (by first | exact Or.inl rfl | exact Or.inr rfl) (d_add (d_var 1) (d_lst (ae_cons (d_isYA (ns := ["NoText"]) (m := "NoFit") T.exc T.exy_NoFit rfl T.b_isinstance (d_var 0) (pe_glob (v := .ref (clOf K "NoFit")) rfl T.exy_NoFit.g rfl)) (ae_cons (d_isYA (ns := ["NoText"]) (m := "NoLine") T.exc T.exy_NoLine rfl T.b_isinstance (d_var 0) (pe_glob (v := .ref (clOf K "NoLine")) rfl T.exy_NoLine.g rfl)) (ae_cons (d_isYA (ns := ["NoText"]) (m := "NoNumber") T.exc T.exy_NoNumber rfl T.b_isinstance (d_var 0) (pe_glob (v := .ref (clOf K "NoNumber")) rfl T.exy_NoNumber.g rfl)) ae_nil)))))) (ss_cons (s_set (i := 1) sc.nd rfl (by first | exact Or.inl rfl | exact Or.inr rfl) (d_add (d_var 1) (d_lst (ae_cons (d_isYA (ns := ["NoText"]) (m := "NoTree") T.exc T.exy_NoTree rfl T.b_isinstance (d_var 0) (pe_glob (v := .ref (clOf K "NoTree")) rfl T.exy_NoTree.g rfl)) (ae_cons (d_isYA (ns := ["NoText"]) (m := "NoPaper") T.exc T.exy_NoPaper rfl T.b_isinstance (d_var 0) (pe_glob (v := .ref (clOf K "NoPaper")) rfl T.exy_NoPaper.g rfl)) (ae_cons (d_isXA (ns := ["NoText"]) (m := "NoText") T.exc rfl T.b_isinstance (d_var 0) (pe_glob (v := .ref (clOf K "NoText")) rfl (T.exc.each "NoText" (by decide)).g rfl)) ae_nil)))))) (ss_cons (s_set (i := 1) sc.nd rfl (by first | exact Or.inl rfl | exact Or.inr rfl) (d_add (d_var 1) (d_lst (ae_cons (d_isYA (ns := ["NoText"]) (m := "NoTitle") T.exc T.exy_NoTitle rfl T.b_isinstance (d_var 0) (pe_glob (v := .ref (clOf K "NoTitle")) rfl T.exy_NoTitle.g rfl)) (ae_cons (d_isYA (ns := ["NoText"]) (m := "NoRow") T.exc T.exy_NoRow rfl T.b_isinstance (d_var 0) (pe_glob (v := .ref (clOf K "NoRow")) rfl T.exy_NoRow.g rfl)) (ae_cons (d_isYA (ns := ["NoText"]) (m := "NoBack") T.exc T.exy_NoBack rfl T.b_isinstance (d_var 0) (pe_glob (v := .ref (clOf K "NoBack")) rfl T.exy_NoBack.g rfl)) ae_nil)))))) (ss_cons (s_set (i := 1) sc.nd rfl (by first | exact Or.inl rfl | exact Or.inr rfl) (d_add (d_var 1) (d_lst (ae_cons (d_isYA (ns := ["NoText"]) (m := "TooGreat") T.exc T.exy_TooGreat rfl T.b_isinstance (d_var 0) (pe_glob (v := .ref (clOf K "TooGreat")) rfl T.exy_TooGreat.g rfl)) (ae_cons (d_isYA (ns := ["NoText"]) (m := "NoWeights") T.exc T.exy_NoWeights rfl T.b_isinstance (d_var 0) (pe_glob (v := .ref (clOf K "NoWeights")) rfl T.exy_NoWeights.g rfl)) (ae_cons (d_isYA (ns := ["NoText"]) (m := "NoFall") T.exc T.exy_NoFall rfl T.b_isinstance (d_var 0) (pe_glob (v := .ref (clOf K "NoFall")) rfl T.exy_NoFall.g rfl)) ae_nil)))))) (ss_cons (s_set (i := 1) sc.nd rfl (by first | exact Or.inl rfl | exact Or.inr rfl) (d_add (d_var 1) (d_lst (ae_cons (d_isYA (ns := ["NoText"]) (m := "NoTops") T.exc T.exy_NoTops rfl T.b_isinstance (d_var 0) (pe_glob (v := .ref (clOf K "NoTops")) rfl T.exy_NoTops.g rfl)) (ae_cons (d_isYA (ns := ["NoText"]) (m := "NoFixed") T.exc T.exy_NoFixed rfl T.b_isinstance (d_var 0) (pe_glob (v := .ref (clOf K "NoFixed")) rfl T.exy_NoFixed.g rfl)) (ae_cons (d_isYA (ns := ["NoText"]) (m := "NoHand") T.exc T.exy_NoHand rfl T.b_isinstance (d_var 0) (pe_glob (v := .ref (clOf K "NoHand")) rfl T.exy_NoHand.g rfl)) ae_nil)))))) (ss_cons (s_set (i := 1) sc.nd rfl (by first | exact Or.inl rfl | exact Or.inr rfl) (d_add (d_var 1) (d_lst (ae_cons (d_isYA (ns := ["NoText"]) (m := "NoRule") T.exc T.exy_NoRule rfl T.b_isinstance (d_var 0) (pe_glob (v := .ref (clOf K "NoRule")) rfl T.exy_NoRule.g rfl)) ae_nil)))) (ss_cons (s_set (i := 2) sc.nd rfl (by first | exact Or.inl rfl | exact Or.inr rfl) (d_split d_str d_str)) (ss_cons (s_set (i := 2) sc.nd rfl (by first | exact Or.inl rfl | exact Or.inr rfl) (d_add (d_var 2) (d_split d_str d_str))) (ss_cons (s_set (i := 2) sc.nd rfl (by first | exact Or.inl rfl | exact Or.inr rfl) (d_add (d_var 2) (d_split d_str d_str))) (ss_cons (s_setLc (i := 3) rfl sc.nd rfl rfl (sw_true rfl rfl rfl (by decide +kernel)) (own := [("_law_word", 4), ("_law_hit", 5)]) (i_zip rfl T.b_zip (ae_cons (d_var 2) (ae_cons (d_var 1) ae_nil)) (fun h => pi_zip (by rfl) T.b_zip h)) (blkOk_by (own := [("_law_word", 4), ("_law_hit", 5)]) (N := N__law_marks) (sc := defScope (top 43)) (by decide +kernel)) (g_tup (n := 2) (g_cons (g_name 4) (g_cons (g_name 5) g_nil))) (by decide) (fun _ _ _ _ _ => pg_tup rfl (pgs_cons (pg_name (i := 4) sc.nd rfl (by first | exact Or.inl rfl | exact Or.inr rfl)) (pgs_cons (pg_name (i := 5) sc.nd rfl (by first | exact Or.inl rfl | exact Or.inr rfl)) pgs_nil))) (fun _ _ _ _ _ => dts_one (d_tval (d_var 5))) (fun _ _ _ _ _ => d_var 4)) (ss_cons (s_if (d_tnot (d_tval (d_isVA (ns := ["NoText"]) T.exc rfl T.b_isinstance (d_var 0) (pe_bltn rfl T.b_ValueError (by decide +kernel) rfl)))) (ss_one (s_expr (d_append (pv 3) d_str))) ss_nil) (ss_one (s_ret (d_var 3))))))))))))))
abbrev N__law_figured : List Str := ["_law_word", "_law_sign"]
theorem sc__law_figured : FnScope N__law_figured ["_law_word"] (defScope (top 44)) := ⟨rfl, rfl, rfl, by decide +kernel, rfl, by decide +kernel, by decide +kernel⟩
theorem w__law_figured (T : Txt K mg) : Cal P w K mg base (clOf K) "_law_figured" 1 ["_law_word"] F_law_figured_v2 := by
  have sc := sc__law_figured
  refine cal_of T.d__law_figured sc (by decide) fun f cdv A outer s H E hr => ?_
  have tk : Takes (cxOf (L2.CX P w) P w K mg base N__law_figured "_law_figured" (defScope (top 44)) f cdv A outer s H E) (fun cls d _ H => E cls d H) := takes_of rfl rfl rfl rfl
  exact ss_cons (s_if (d_tw (w_or (t_eq hr.units (d_var 0) d_str) (w_or (t_gt (d_callB (CallR.or' call_len_seq call_len_str) cd_len rfl T.b_len (by decide +kernel) (ap_cons (d_var 0) ap_nil)) d_int) (w_or1 (t_ne hr.units (d_lc rfl sc.nd (own := [("_law_sign", 1)]) (i_str (d_var 0)) (blkOk_by (own := [("_law_sign", 1)]) (N := N__law_figured) (sc := defScope (top 44)) (by decide +kernel)) (g_name 1) (by decide) (fun _ _ _ _ _ => pg_name (i := 1) sc.nd rfl (by first | exact Or.inl rfl | exact Or.inr rfl)) (fun _ _ _ _ _ => dts_one (t_sgNot (by rfl) (d_var 1) d_str)) (fun _ _ _ _ _ => d_var 1)) (d_lst ae_nil)))))) (ss_one (s_ret d_non)) ss_nil) (ss_cons (s_if (d_tw (w_and (t_eq hr.units (d_ix (d_var 0) d_int (fun _ _ => rfl)) d_str) (w_and1 (t_ne hr.units (d_var 0) d_str)))) (ss_one (s_ret d_non)) ss_nil) (ss_one (s_ret (d_callTy call_int_str cd_intT rfl T.b_int (by decide +kernel) (ap_cons (d_var 0) ap_nil)))))
abbrev N__law_ranked : List Str := ["_law_word", "_law_found", "_law_part"]
theorem sc__law_ranked : FnScope N__law_ranked ["_law_word"] (defScope (top 45)) := ⟨rfl, rfl, rfl, by decide +kernel, rfl, by decide +kernel, by decide +kernel⟩
theorem w__law_ranked (T : Txt K mg)
    (c__law_figured : Cal P w K mg base (clOf K) "_law_figured" 1 ["_law_word"] F_law_figured_v2) : Cal P w K mg base (clOf K) "_law_ranked" 2 ["_law_word"] F_law_ranked_v2 := by
  have sc := sc__law_ranked
  refine cal_of T.d__law_ranked sc (by decide) fun f cdv A outer s H E hr => ?_
  have tk : Takes (cxOf (L2.CX P w) P w K mg base N__law_ranked "_law_ranked" (defScope (top 45)) f cdv A outer s H E) (fun cls d _ H => E cls d H) := takes_of rfl rfl rfl rfl
  exact ss_cons (s_setLc (i := 1) rfl sc.nd rfl rfl (sw_true rfl rfl rfl (by decide +kernel)) (own := [("_law_part", 2)]) (i_list (d_split (d_var 0) d_str)) (blkOk_by (own := [("_law_part", 2)]) (N := N__law_ranked) (sc := defScope (top 45)) (by decide +kernel)) (g_name 2) (by decide) (fun _ _ _ _ _ => pg_name (i := 2) sc.nd rfl (by first | exact Or.inl rfl | exact Or.inr rfl)) (fun _ _ _ _ _ => dts_nil) (fun _ _ _ _ _ => d_cal c__law_figured (hr.mono (by decide)) passA0 (ae_cons (d_var 2) ae_nil))) (ss_cons (s_if (d_tw (w_or (t_in hr.units (by rfl) d_non (d_var 1)) (w_or (t_gt (d_callB (CallR.or' call_len_seq call_len_str) cd_len rfl T.b_len (by decide +kernel) (ap_cons (d_var 1) ap_nil)) d_int) (w_or1 (t_lt (d_lenSet rfl rfl T.b_len rfl T.b_set (d_var 1)) (d_callB (CallR.or' call_len_seq call_len_str) cd_len rfl T.b_len (by decide +kernel) (ap_cons (d_var 1) ap_nil))))))) (ss_one (s_ret d_non)) ss_nil) (ss_one (s_ret (d_var 1))))
abbrev N__law_folk_of : List Str := ["_law_text", "_law_found", "_law_rows", "_law_k", "_law_word", "_law_ranking"]
theorem sc__law_folk_of : FnScope N__law_folk_of ["_law_text"] (defScope (top 46)) := ⟨rfl, rfl, rfl, by decide +kernel, rfl, by decide +kernel, by decide +kernel⟩
theorem w__law_folk_of (T : Txt K mg)
    (c__law_ranked : Cal P w K mg base (clOf K) "_law_ranked" 2 ["_law_word"] F_law_ranked_v2) : Cal P w K mg base (clOf K) "_law_folk_of" 3 ["_law_text"] F_law_folk_of_v2 := by
  have sc := sc__law_folk_of
  refine cal_of T.d__law_folk_of sc (by decide) fun f cdv A outer s H E hr => ?_
  have tk : Takes (cxOf (L2.CX P w) P w K mg base N__law_folk_of "_law_folk_of" (defScope (top 46)) f cdv A outer s H E) (fun cls d _ H => E cls d H) := takes_of rfl rfl rfl rfl
  exact ss_cons (s_set (i := 1) sc.nd rfl (by first | exact Or.inl rfl | exact Or.inr rfl) (d_lst ae_nil)) (ss_cons (s_set (i := 2) sc.nd rfl (by first | exact Or.inl rfl | exact Or.inr rfl) (d_split (d_var 0) d_str)) (ss_cons (s_for (passes_of rfl) rfl (i_enum rfl T.b_enumerate (ae_cons (d_slice (d_var 2) dp_none (dp_some (d_neg d_int))) ae_nil)) (pg_tup rfl (pgs_cons (pg_name (i := 3) sc.nd rfl (by first | exact Or.inl rfl | exact Or.inr rfl)) (pgs_cons (pg_name (i := 4) sc.nd rfl (by first | exact Or.inl rfl | exact Or.inr rfl)) pgs_nil))) (g_tup (n := 2) (g_cons (g_name 3) (g_cons (g_name 4) g_nil))) (ss_cons (s_set (i := 5) sc.nd rfl (by first | exact Or.inl rfl | exact Or.inr rfl) (d_cal c__law_ranked (hr.mono (by decide)) (passAt tk) (ae_cons (d_var 4) ae_nil))) (ss_cons (s_if (d_tw (w_or (t_isN (d_var 5)) (w_or (t_gt (d_var 3) d_int) (w_or1 (d_tw (w_and (t_ne hr.units (d_var 1) (d_lst ae_nil)) (w_and1 (t_ne hr.units (d_callB (CallR.or' cr_sortedI (cr_sortedD hr.units)) cd_sorted rfl T.b_sorted (by decide +kernel) (ap_cons (d_var 5) ap_nil)) (d_callB (CallR.or' cr_sortedI (cr_sortedD hr.units)) cd_sorted rfl T.b_sorted (by decide +kernel) (ap_cons (d_ix (d_var 1) d_int (fun _ _ => rfl)) ap_nil)))))))))) (ss_one (s_ret (d_lst (ae_cons (d_var 3) ae_nil)))) ss_nil) (ss_one (s_expr (d_append (pv 1) (d_var 5))))))) (ss_cons (s_if (d_tw (w_or (t_ne hr.units (d_ix (d_var 2) (d_neg d_int) (fun _ _ => rfl)) d_str) (w_or1 (t_eq hr.units (d_var 1) (d_lst ae_nil))))) (ss_one (s_ret (d_lst (ae_cons (d_sub (d_callB (CallR.or' call_len_seq call_len_str) cd_len rfl T.b_len (by decide +kernel) (ap_cons (d_var 2) ap_nil)) d_int) ae_nil)))) ss_nil) (ss_one (s_ret (d_tup (ae_cons (d_var 1) ae_nil)))))))
abbrev N__law_told : List Str := ["_law_way", "_law_text", "_law_caught", "_law_found", "e"]
theorem sc__law_told : FnScope N__law_told ["_law_way", "_law_text"] (defScope (top 47)) := ⟨rfl, rfl, rfl, by decide +kernel, rfl, by decide +kernel, by decide +kernel⟩
theorem w__law_told (T : Txt K mg)
    (c_read_ranking : Cal P w K mg base (clOf K) "read_ranking" 5 ["word"] F_read_ranking_v9)
    (c_read_folk : Cal P w K mg base (clOf K) "read_folk" 5 ["text"] F_read_folk_v6)
    (c__law_marks : Cal P w K mg base (clOf K) "_law_marks" 1 ["_law_caught"] F_law_marks_v11) : Cal P w K mg base (clOf K) "_law_told" 6 ["_law_way", "_law_text"] F_law_told_v35 := by
  have sc := sc__law_told
  refine cal_of T.d__law_told sc (by decide) fun f cdv A outer s H E hr => ?_
  have tk : Takes (cxOf (L2.CX P w) P w K mg base N__law_told "_law_told" (defScope (top 47)) f cdv A outer s H E) (fun cls d _ H => E cls d H) := takes_of rfl rfl rfl rfl
  exact ss_cons (s_set (i := 2) sc.nd rfl (by first | exact Or.inl rfl | exact Or.inr rfl) d_non) (ss_cons (s_set (i := 3) sc.nd rfl (by first | exact Or.inl rfl | exact Or.inr rfl) d_non) (ss_cons (s_tryA (ns := ["NoText"]) (i := 4) (j := 2) rfl T.exc.top rfl rfl rfl sc.nd rfl rfl ⟨rfl, by decide, .inl T.exc.gF⟩ tk (fun W pn xe tk _ => ss_cons (s_if (t_eq hr.units (d_var 0) d_int) (ss_one (s_set (i := 3) sc.nd rfl (by first | exact Or.inl rfl | exact Or.inr rfl) (d_cal c_read_folk (hr.mono (by decide)) (passAt tk) (ae_cons (d_var 1) ae_nil)))) ss_nil) (ss_one (s_if (t_eq hr.units (d_var 0) d_int) (ss_one (s_set (i := 3) sc.nd rfl (by first | exact Or.inl rfl | exact Or.inr rfl) (d_cal c_read_ranking (hr.mono (by decide)) (passAt tk) (ae_cons (d_var 1) ae_nil)))) ss_nil))) (fun a oe pn => pss_one (ps_set (i := 2) sc.nd rfl (by first | exact Or.inl rfl | exact Or.inr rfl) (pv 4)))) (ss_cons (s_if (t_isN (d_var 2)) (ss_one (s_ret (d_tup (ae_cons (d_var 3) ae_nil)))) ss_nil) (ss_cons (s_if (d_tw (w_or (t_ne hr.units (d_cal c__law_marks (hr.mono (by decide)) (passAt tk) (ae_cons (d_var 2) ae_nil)) (d_lst (ae_cons d_str ae_nil))) (w_or1 (d_tval (d_isi (m := "bool") (by decide) rfl T.b_isinstance (d_fld (n := "NoText") (T.exc.each "NoText" (by decide)) T.ox_NoText.no rfl (d_var 2)) (pe_bltn rfl T.b_bool (by decide +kernel) rfl)))))) (ss_one (s_ret d_non)) ss_nil) (ss_one (s_ret (d_lst (ae_cons (d_fld (n := "NoText") (T.exc.each "NoText" (by decide)) T.ox_NoText.no rfl (d_var 2)) ae_nil))))))))
abbrev N__law_bent : List Str := ["_law_left_here", "_law_text", "_law_names_here", "_law_at", "_law_sign", "_law_name", "_law_rows", "_law_row", "_law_way", "_law_near", "_law_longer", "_law_one", "_law_sevens", "_law_part"]
theorem sc__law_bent : FnScope N__law_bent ["_law_left_here", "_law_text", "_law_names_here"] (defScope (top 48)) := ⟨rfl, rfl, rfl, by decide +kernel, rfl, by decide +kernel, by decide +kernel⟩
theorem w__law_bent (T : Txt K mg)
    (c__law_draw : Cal P w K mg base (clOf K) "_law_draw" 2 ["_law_left_here", "_law_base"] F_law_draw_v3) : Cal P w K mg base (clOf K) "_law_bent" 3 ["_law_left_here", "_law_text", "_law_names_here"] F_law_bent_v16 := by
  have sc := sc__law_bent
  refine cal_of T.d__law_bent sc (by decide) fun f cdv A outer s H E hr => ?_
  have tk : Takes (cxOf (L2.CX P w) P w K mg base N__law_bent "_law_bent" (defScope (top 48)) f cdv A outer s H E) (fun cls d _ H => E cls d H) := takes_of rfl rfl rfl rfl
  exact ss_cons (s_set (i := 3) sc.nd rfl (by first | exact Or.inl rfl | exact Or.inr rfl) (d_cal c__law_draw (hr.mono (by decide)) (passAt tk) (ae_cons (d_var 0) (ae_cons (d_add (d_callB (CallR.or' call_len_seq call_len_str) cd_len rfl T.b_len (by decide +kernel) (ap_cons (d_var 1) ap_nil)) d_int) ae_nil)))) (ss_cons (s_set (i := 4) sc.nd rfl (by first | exact Or.inl rfl | exact Or.inr rfl) (d_ix d_str (d_cal c__law_draw (hr.mono (by decide)) (passAt tk) (ae_cons (d_var 0) (ae_cons d_int ae_nil))) (fun _ _ => rfl))) (ss_cons (s_set (i := 5) sc.nd rfl (by first | exact Or.inl rfl | exact Or.inr rfl) (d_strC hr rfl T.b_str (d_ix (d_var 2) (d_cal c__law_draw (hr.mono (by decide)) (passAt tk) (ae_cons (d_var 0) (ae_cons (d_callB (CallR.or' call_len_seq call_len_str) cd_len rfl T.b_len (by decide +kernel) (ap_cons (d_var 2) ap_nil)) ae_nil))) (fun _ _ => rfl)))) (ss_cons (s_set (i := 6) sc.nd rfl (by first | exact Or.inl rfl | exact Or.inr rfl) (d_split (d_var 1) d_str)) (ss_cons (s_set (i := 7) sc.nd rfl (by first | exact Or.inl rfl | exact Or.inr rfl) (d_cal c__law_draw (hr.mono (by decide)) (passAt tk) (ae_cons (d_var 0) (ae_cons (d_callB (CallR.or' call_len_seq call_len_str) cd_len rfl T.b_len (by decide +kernel) (ap_cons (d_var 6) ap_nil)) ae_nil)))) (ss_cons (s_set (i := 8) sc.nd rfl (by first | exact Or.inl rfl | exact Or.inr rfl) (d_cal c__law_draw (hr.mono (by decide)) (passAt tk) (ae_cons (d_var 0) (ae_cons d_int ae_nil)))) (ss_cons (s_if (t_eq hr.units (d_var 8) d_int) (ss_one (s_ret (d_add (d_add (d_slT (d_var 1) dp_none (dp_some (d_var 3))) (d_var 4)) (d_slT (d_var 1) (dp_some (d_var 3)) dp_none)))) ss_nil) (ss_cons (s_if (t_eq hr.units (d_var 8) d_int) (ss_one (s_ret (d_add (d_slT (d_var 1) dp_none (dp_some (d_var 3))) (d_slT (d_var 1) (dp_some (d_add (d_var 3) d_int)) dp_none)))) ss_nil) (ss_cons (s_if (t_eq hr.units (d_var 8) d_int) (ss_cons (s_set (i := 9) sc.nd rfl (by first | exact Or.inl rfl | exact Or.inr rfl) (d_add (d_slT (d_var 1) (dp_some (d_add (d_var 3) d_int)) (dp_some (d_add (d_var 3) d_int))) (d_slT (d_var 1) (dp_some (d_var 3)) (dp_some (d_add (d_var 3) d_int))))) (ss_one (s_ret (d_add (d_add (d_slT (d_var 1) dp_none (dp_some (d_var 3))) (d_var 9)) (d_slT (d_var 1) (dp_some (d_add (d_var 3) d_int)) dp_none))))) ss_nil) (ss_cons (s_if (t_eq hr.units (d_var 8) d_int) (ss_one (s_ret (d_add (d_add (d_slT (d_var 1) dp_none (dp_some (d_var 3))) (d_var 4)) (d_slT (d_var 1) (dp_some (d_add (d_var 3) d_int)) dp_none)))) ss_nil) (ss_cons (s_if (t_eq hr.units (d_var 8) d_int) (ss_one (s_ret (d_slT (d_var 1) dp_none (dp_some (d_var 3))))) ss_nil) (ss_cons (s_if (t_eq hr.units (d_var 8) d_int) (ss_one (s_ret (d_join d_str (d_add (d_add (d_slice (d_var 6) dp_none (dp_some (d_var 7))) (d_slice (d_var 6) (dp_some (d_var 7)) (dp_some (d_add (d_var 7) d_int)))) (d_slice (d_var 6) (dp_some (d_var 7)) dp_none))))) ss_nil) (ss_cons (s_if (t_eq hr.units (d_var 8) d_int) (ss_one (s_ret (d_join d_str (d_add (d_slice (d_var 6) dp_none (dp_some (d_var 7))) (d_slice (d_var 6) (dp_some (d_add (d_var 7) d_int)) dp_none))))) ss_nil) (ss_cons (s_if (t_eq hr.units (d_var 8) d_int) (ss_one (s_ret (d_join d_str (d_add (d_lc rfl sc.nd (own := [("_law_one", 11)]) (i_list (d_slice (d_var 6) dp_none (dp_some (d_var 7)))) (blkOk_by (own := [("_law_one", 11)]) (N := N__law_bent) (sc := defScope (top 48)) (by decide +kernel)) (g_name 11) (by decide) (fun _ _ _ _ _ => pg_name (i := 11) sc.nd rfl (by first | exact Or.inl rfl | exact Or.inr rfl)) (fun _ _ _ _ _ => dts_nil) (fun _ _ _ _ _ => d_add d_str (d_var 11))) (d_slice (d_var 6) (dp_some (d_var 7)) dp_none))))) ss_nil) (ss_cons (s_if (t_eq hr.units (d_var 8) d_int) (ss_one (s_ret (d_mulS (d_add (d_ix (d_var 6) d_int (fun _ _ => rfl)) d_str) (d_add d_int (d_cal c__law_draw (hr.mono (by decide)) (passAt tk) (ae_cons (d_var 0) (ae_cons d_int ae_nil))))))) ss_nil) (ss_cons (s_if (t_eq hr.units (d_var 8) d_int) (ss_one (s_ret (d_ix (d_lst (ae_cons d_str (ae_cons d_str (ae_cons d_str (ae_cons d_str (ae_cons d_str (ae_cons d_str (ae_cons d_str (ae_cons d_str (ae_cons d_str ae_nil)))))))))) (d_cal c__law_draw (hr.mono (by decide)) (passAt tk) (ae_cons (d_var 0) (ae_cons d_int ae_nil))) (fun _ _ => rfl)))) ss_nil) (ss_cons (s_set (i := 10) sc.nd rfl (by first | exact Or.inl rfl | exact Or.inr rfl) (d_lst ae_nil)) (ss_cons (s_for (passes_of rfl) rfl (i_list (d_var 6)) (pg_name (i := 11) sc.nd rfl (by first | exact Or.inl rfl | exact Or.inr rfl)) (g_name 11) (ss_cons (s_set (i := 12) sc.nd rfl (by first | exact Or.inl rfl | exact Or.inr rfl) (d_mulS d_str (d_add (d_sub d_int (d_callB (CallR.or' call_len_seq call_len_str) cd_len rfl T.b_len (by decide +kernel) (ap_cons (d_var 5) ap_nil))) (d_cal c__law_draw (hr.mono (by decide)) (passAt tk) (ae_cons (d_var 0) (ae_cons d_int ae_nil)))))) (ss_one (s_expr (d_append (pv 10) (d_join d_str (d_lc rfl sc.nd (own := [("_law_part", 13)]) (i_list (d_split (d_var 11) d_str)) (blkOk_by (own := [("_law_part", 13)]) (N := N__law_bent) (sc := defScope (top 48)) (by decide +kernel)) (g_name 13) (by decide) (fun _ _ _ _ _ => pg_name (i := 13) sc.nd rfl (by first | exact Or.inl rfl | exact Or.inr rfl)) (fun _ _ _ _ _ => dts_nil) (fun _ _ _ _ _ => d_ix (d_lst (ae_cons (d_var 13) (ae_cons (d_add (d_var 13) (d_var 12)) ae_nil))) (d_callTy call_int1 cd_int rfl T.b_int (by decide +kernel) (ap_cons (d_eq hr.units (d_var 13) (d_var 5)) ap_nil)) (fun _ _ => rfl))))))))) (ss_one (s_ret (d_join d_str (d_var 10)))))))))))))))))))))
abbrev N__law_refusals_held : List Str := ["_law_held", "_law_some", "_law_text", "_law_caught", "e"]
theorem sc__law_refusals_held : FnScope N__law_refusals_held [] (defScope (top 49)) := ⟨rfl, rfl, rfl, by decide +kernel, rfl, by decide +kernel, by decide +kernel⟩
theorem w__law_refusals_held (T : Txt K mg)
    (c_read_folk : Cal P w K mg base (clOf K) "read_folk" 5 ["text"] F_read_folk_v6) : Cal P w K mg base (clOf K) "_law_refusals_held" 6 [] F_law_refusals_held_v5 := by
  have sc := sc__law_refusals_held
  refine cal_of T.d__law_refusals_held sc (by decide) fun f cdv A outer s H E hr => ?_
  have tk : Takes (cxOf (L2.CX P w) P w K mg base N__law_refusals_held "_law_refusals_held" (defScope (top 49)) f cdv A outer s H E) (fun cls d _ H => E cls d H) := takes_of rfl rfl rfl rfl
  exact ss_cons (s_set (i := 0) sc.nd rfl (by first | exact Or.inl rfl | exact Or.inr rfl) (d_lst ae_nil)) (ss_cons (s_set (i := 1) sc.nd rfl (by first | exact Or.inl rfl | exact Or.inr rfl) (d_lst (ae_cons d_str (ae_cons d_str (ae_cons d_str (ae_cons d_str ae_nil)))))) (ss_cons (s_forH (n := "NoText") (j := 0) (c := 3) (passes_of rfl) rfl (i_list (d_var 1)) (pg_name (i := 2) sc.nd rfl (by first | exact Or.inl rfl | exact Or.inr rfl)) (g_name 2) (s_set (i := 3) sc.nd rfl (by first | exact Or.inl rfl | exact Or.inr rfl) d_non) (s_tryA (ns := ["NoText"]) (i := 4) (j := 3) rfl T.exc.top rfl rfl rfl sc.nd rfl rfl ⟨rfl, by decide, .inl T.exc.gF⟩ tk (fun W pn xe tk _ => ss_one (s_expr (d_cal c_read_folk (hr.mono (by decide)) (passAt tk) (ae_cons (d_var 2) ae_nil)))) (fun a oe pn => pss_one (ps_set (i := 3) sc.nd rfl (by first | exact Or.inl rfl | exact Or.inr rfl) (pv 4)))) (pv 0) (pv 3)) (ss_one (s_ret (d_eq hr.units (d_fldsN (n := "NoText") (i := 3) rfl sc.nd (own := [("_law_caught", 3)]) (d_var 0) (blkOk_by (own := [("_law_caught", 3)]) (N := N__law_refusals_held) (sc := defScope (top 49)) (by decide +kernel)) (by decide) (T.exc.each "NoText" (by decide)) T.ox_NoText.no rfl (fun _ _ _ _ _ => pg_name (i := 3) sc.nd rfl (by first | exact Or.inl rfl | exact Or.inr rfl)) (fun _ _ _ _ _ => pv 3) (fun _ _ _ _ _ => pv 3) (fun _ _ _ _ _ => rfl)) (d_lst (ae_cons d_int (ae_cons d_int (ae_cons d_int (ae_cons d_int ae_nil))))))))))
abbrev N_law : List Str := ["_law_script", "_law_cell", "_law_left_here", "_law_names_here", "_law_folk_here", "_law_text", "_law_turn", "_law_due", "_law_some", "_law_word", "_law_ranking", "_law_name"]
theorem sc_law : FnScope N_law ["_law_script"] (defScope (top 50)) := ⟨rfl, rfl, rfl, by decide +kernel, rfl, by decide +kernel, by decide +kernel⟩
theorem w_law (T : Txt K mg) (hp : LawOkS 12 p_law_k81)
    (c__law_left : Cal P w K mg base (clOf K) "_law_left" 1 ["_law_cell"] F_law_left)
    (c__law_draw : Cal P w K mg base (clOf K) "_law_draw" 2 ["_law_left_here", "_law_base"] F_law_draw_v3)
    (c__law_names : Cal P w K mg base (clOf K) "_law_names" 3 ["_law_left_here", "_law_many"] F_law_names_v6)
    (c__law_tree : Cal P w K mg base (clOf K) "_law_tree" 4 ["_law_left_here", "_law_names_here"] F_law_tree_v2)
    (c__law_folk : Cal P w K mg base (clOf K) "_law_folk" 4 ["_law_left_here", "_law_names_here", "_law_tree_here"] F_law_folk_v14)
    (c__law_ranked : Cal P w K mg base (clOf K) "_law_ranked" 2 ["_law_word"] F_law_ranked_v2)
    (c__law_folk_of : Cal P w K mg base (clOf K) "_law_folk_of" 3 ["_law_text"] F_law_folk_of_v2)
    (c__law_told : Cal P w K mg base (clOf K) "_law_told" 6 ["_law_way", "_law_text"] F_law_told_v35)
    (c__law_bent : Cal P w K mg base (clOf K) "_law_bent" 3 ["_law_left_here", "_law_text", "_law_names_here"] F_law_bent_v16)
    (c__law_refusals_held : Cal P w K mg base (clOf K) "_law_refusals_held" 6 [] F_law_refusals_held_v5) {f : Addr} {fd : FuncData} (F : Fun K "law" "law" (top 50) f fd) : FnG P w K mg base (L2.CX P w) 7 f fd ["_law_script"] (spLaw K) := by
  have sc := sc_law
  refine law_ok2 (cl := clOf K) F sc (fun f cdv A outer s H E hr => ?_) hp
  have tk : Takes (cxOf (L2.CX P w) P w K mg base N_law "law" (defScope (top 50)) f cdv A outer s H E) (fun cls d _ H => E cls d H) := takes_of rfl rfl rfl rfl
  exact ss_cons (s_forW (k := 2) (passes_of rfl) rfl (i_list (d_add (d_lst (ae_cons d_int ae_nil)) (d_scCut (k := 6) (d_var 0)))) (pg_name (i := 1) sc.nd rfl (by first | exact Or.inl rfl | exact Or.inr rfl)) (g_name 1) sc.nd rfl (by first | exact Or.inl rfl | exact Or.inr rfl) (d_cal c__law_left (hr.mono (by decide)) (passAt tk) (ae_cons (d_var 1) ae_nil)) (ss_cons (s_set (i := 3) sc.nd rfl (by first | exact Or.inl rfl | exact Or.inr rfl) (d_cal c__law_names (hr.mono (by decide)) (passAt tk) (ae_cons (d_var 2) (ae_cons (d_add d_int (d_cal c__law_draw (hr.mono (by decide)) (passAt tk) (ae_cons (d_var 2) (ae_cons d_int ae_nil)))) ae_nil)))) (ss_cons (s_set (i := 4) sc.nd rfl (by first | exact Or.inl rfl | exact Or.inr rfl) (d_cal c__law_folk (hr.mono (by decide)) (passAt tk) (ae_cons (d_var 2) (ae_cons (d_var 3) (ae_cons (d_cal c__law_tree (hr.mono (by decide)) (passAt tk) (ae_cons (d_var 2) (ae_cons (d_var 3) ae_nil))) ae_nil))))) (ss_cons (s_set (i := 5) sc.nd rfl (by first | exact Or.inl rfl | exact Or.inr rfl) (d_join d_str (d_lc rfl sc.nd (own := [("_law_ranking", 10)]) (i_list (d_var 4)) (blkOk_by (own := [("_law_ranking", 10)]) (N := N_law) (sc := defScope (top 50)) (by decide +kernel)) (g_name 10) (by decide) (fun _ _ _ _ _ => pg_name (i := 10) sc.nd rfl (by first | exact Or.inl rfl | exact Or.inr rfl)) (fun _ _ _ _ _ => dts_nil) (fun _ _ _ _ _ => d_add (d_join d_str (d_lc rfl sc.nd (own := [("_law_name", 11)]) (i_list (d_var 10)) (blkOk_by (own := [("_law_name", 11)]) (N := N_law) (by kernel_rfl)) (g_name 11) (by decide) (fun _ _ _ _ _ => pg_name (i := 11) sc.nd rfl (by first | exact Or.inl rfl | exact Or.inr rfl)) (fun _ _ _ _ _ => dts_nil) (fun _ _ _ _ _ => d_strC hr rfl T.b_str (d_var 11)))) d_str)))) (ss_one (s_for (passes_of rfl) rfl (i_range1 rfl T.b_range (ap_cons d_int ap_nil)) (pg_name (i := 6) sc.nd rfl (by first | exact Or.inl rfl | exact Or.inr rfl)) (g_name 6) (ss_cons (s_set (i := 5) sc.nd rfl (by first | exact Or.inl rfl | exact Or.inr rfl) (d_cal c__law_bent (hr.mono (by decide)) (passAt tk) (ae_cons (d_var 2) (ae_cons (d_var 5) (ae_cons (d_var 3) ae_nil))))) (ss_cons (s_set (i := 7) sc.nd rfl (by first | exact Or.inl rfl | exact Or.inr rfl) (d_cal c__law_folk_of (hr.mono (by decide)) (passAt tk) (ae_cons (d_var 5) ae_nil))) (ss_cons (s_if (d_tw (w_or (t_ne hr.units (d_cal c__law_told (hr.mono (by decide)) (passAt tk) (ae_cons d_int (ae_cons (d_var 5) ae_nil))) (d_var 7)) (w_or1 (t_ne hr.units (d_cal c__law_told (hr.mono (by decide)) (passAt tk) (ae_cons d_int (ae_cons (d_var 5) ae_nil))) (d_var 7))))) (ss_one (s_ret d_bl)) ss_nil) (ss_cons (s_set (i := 8) sc.nd rfl (by first | exact Or.inl rfl | exact Or.inr rfl) (d_slice (d_split (d_var 5) d_str) dp_none (dp_some d_int))) (ss_one (s_for (passes_of rfl) rfl (i_list (d_add (d_var 8) (d_lst (ae_cons (d_add (d_ix (d_var 8) d_int (fun _ _ => rfl)) d_str) (ae_cons (d_add d_str (d_ix (d_var 8) d_int (fun _ _ => rfl))) (ae_cons (d_rep (d_var 8)) (ae_cons (d_add d_str (d_ix (d_var 8) d_int (fun _ _ => rfl))) ae_nil))))))) (pg_name (i := 9) sc.nd rfl (by first | exact Or.inl rfl | exact Or.inr rfl)) (g_name 9) (ss_cons (s_set (i := 10) sc.nd rfl (by first | exact Or.inl rfl | exact Or.inr rfl) (d_cal c__law_ranked (hr.mono (by decide)) (passAt tk) (ae_cons (d_var 9) ae_nil))) (ss_cons (s_set (i := 7) sc.nd rfl (by first | exact Or.inl rfl | exact Or.inr rfl) (d_lst (ae_cons d_int ae_nil))) (ss_cons (s_if (t_notN (d_var 10)) (ss_one (s_set (i := 7) sc.nd rfl (by first | exact Or.inl rfl | exact Or.inr rfl) (d_tup (ae_cons (d_var 10) ae_nil)))) ss_nil) (ss_one (s_if (t_ne hr.units (d_cal c__law_told (hr.mono (by decide)) (passAt tk) (ae_cons d_int (ae_cons (d_var 9) ae_nil))) (d_var 7)) (ss_one (s_ret d_bl)) ss_nil))))))))))))))))) (ss_one (s_ret (d_cal0 c__law_refusals_held (hr.mono (by decide)) (passAt tk))))
end
theorem all_mk {P : Program} {w : World} {K : PySem.W.Frag} {h : Heap} {mg : Str → Option Value} {fa : Addr} (X : K.In h) (G : h.Ns mainGlobals mg) (hfa : mg "law" = some (.ref fa)) {f_is_number : Addr} {od_is_number an_is_number : Option Addr} {sl_is_number : Array (Option Value)} {oc_is_number kV_is_number dc_is_number pm_is_number cd_is_number ct_is_number : Value} {f_are_unlike_names : Addr} {od_are_unlike_names an_are_unlike_names : Option Addr} {sl_are_unlike_names : Array (Option Value)} {oc_are_unlike_names kV_are_unlike_names dc_are_unlike_names pm_are_unlike_names cd_are_unlike_names ct_are_unlike_names : Value} {f_is_ranking : Addr} {od_is_ranking an_is_ranking : Option Addr} {sl_is_ranking : Array (Option Value)} {oc_is_ranking kV_is_ranking dc_is_ranking pm_is_ranking cd_is_ranking ct_is_ranking : Value} {f_number_of : Addr} {od_number_of an_number_of : Option Addr} {sl_number_of : Array (Option Value)} {oc_number_of kV_number_of dc_number_of pm_number_of cd_number_of ct_number_of : Value} {f_ranking_of : Addr} {od_ranking_of an_ranking_of : Option Addr} {sl_ranking_of : Array (Option Value)} {oc_ranking_of kV_ranking_of dc_ranking_of pm_ranking_of cd_ranking_of ct_ranking_of : Value} {f_read_ranking : Addr} {od_read_ranking an_read_ranking : Option Addr} {sl_read_ranking : Array (Option Value)} {oc_read_ranking kV_read_ranking dc_read_ranking pm_read_ranking cd_read_ranking ct_read_ranking : Value} {f_read_folk : Addr} {od_read_folk an_read_folk : Option Addr} {sl_read_folk : Array (Option Value)} {oc_read_folk kV_read_folk dc_read_folk pm_read_folk cd_read_folk ct_read_folk : Value} {f__law_mix : Addr} {od__law_mix an__law_mix : Option Addr} {sl__law_mix : Array (Option Value)} {oc__law_mix kV__law_mix dc__law_mix pm__law_mix cd__law_mix ct__law_mix : Value} {f__law_left : Addr} {od__law_left an__law_left : Option Addr} {sl__law_left : Array (Option Value)} {oc__law_left kV__law_left dc__law_left pm__law_left cd__law_left ct__law_left : Value} {f__law_draw : Addr} {od__law_draw an__law_draw : Option Addr} {sl__law_draw : Array (Option Value)} {oc__law_draw kV__law_draw dc__law_draw pm__law_draw cd__law_draw ct__law_draw : Value} {f__law_names : Addr} {od__law_names an__law_names : Option Addr} {sl__law_names : Array (Option Value)} {oc__law_names kV__law_names dc__law_names pm__law_names cd__law_names ct__law_names : Value} {f__law_shuffled : Addr} {od__law_shuffled an__law_shuffled : Option Addr} {sl__law_shuffled : Array (Option Value)} {oc__law_shuffled kV__law_shuffled dc__law_shuffled pm__law_shuffled cd__law_shuffled ct__law_shuffled : Value} {f__law_tree : Addr} {od__law_tree an__law_tree : Option Addr} {sl__law_tree : Array (Option Value)} {oc__law_tree kV__law_tree dc__law_tree pm__law_tree cd__law_tree ct__law_tree : Value} {f__law_falling : Addr} {od__law_falling an__law_falling : Option Addr} {sl__law_falling : Array (Option Value)} {oc__law_falling kV__law_falling dc__law_falling pm__law_falling cd__law_falling ct__law_falling : Value} {f__law_folk : Addr} {od__law_folk an__law_folk : Option Addr} {sl__law_folk : Array (Option Value)} {oc__law_folk kV__law_folk dc__law_folk pm__law_folk cd__law_folk ct__law_folk : Value} {f__law_marks : Addr} {od__law_marks an__law_marks : Option Addr} {sl__law_marks : Array (Option Value)} {oc__law_marks kV__law_marks dc__law_marks pm__law_marks cd__law_marks ct__law_marks : Value} {f__law_figured : Addr} {od__law_figured an__law_figured : Option Addr} {sl__law_figured : Array (Option Value)} {oc__law_figured kV__law_figured dc__law_figured pm__law_figured cd__law_figured ct__law_figured : Value} {f__law_ranked : Addr} {od__law_ranked an__law_ranked : Option Addr} {sl__law_ranked : Array (Option Value)} {oc__law_ranked kV__law_ranked dc__law_ranked pm__law_ranked cd__law_ranked ct__law_ranked : Value} {f__law_folk_of : Addr} {od__law_folk_of an__law_folk_of : Option Addr} {sl__law_folk_of : Array (Option Value)} {oc__law_folk_of kV__law_folk_of dc__law_folk_of pm__law_folk_of cd__law_folk_of ct__law_folk_of : Value} {f__law_told : Addr} {od__law_told an__law_told : Option Addr} {sl__law_told : Array (Option Value)} {oc__law_told kV__law_told dc__law_told pm__law_told cd__law_told ct__law_told : Value} {f__law_bent : Addr} {od__law_bent an__law_bent : Option Addr} {sl__law_bent : Array (Option Value)} {oc__law_bent kV__law_bent dc__law_bent pm__law_bent cd__law_bent ct__law_bent : Value} {f__law_refusals_held : Addr} {od__law_refusals_held an__law_refusals_held : Option Addr} {sl__law_refusals_held : Array (Option Value)} {oc__law_refusals_held kV__law_refusals_held dc__law_refusals_held pm__law_refusals_held cd__law_refusals_held ct__law_refusals_held : Value} {f_law : Addr} {od_law an_law : Option Addr} {sl_law : Array (Option Value)} {oc_law kV_law dc_law pm_law cd_law ct_law : Value} {t_MOST_NAMES : Tok} {t_MOST_FIGURES : Tok} {t_FIGURES : Tok} {t_MOST_HANDS : Tok} {C_NoText : Addr} {C_FolkError : Addr} {C_NoBack : Addr} {C_NoFall : Addr} {C_NoFit : Addr} {C_NoFixed : Addr} {C_NoFolk : Addr} {C_NoHand : Addr} {C_NoLine : Addr} {C_NoNames : Addr} {C_NoNumber : Addr} {C_NoPaper : Addr} {C_NoRanking : Addr} {C_NoRow : Addr} {C_NoRule : Addr} {C_NoTitle : Addr} {C_NoTops : Addr} {C_NoTree : Addr} {C_NoWeights : Addr} {C_TooGreat : Addr} {nm_NoText qn_NoText : Str} {N_NoText fi_NoText : Addr} {bs_NoText bm_NoText sub_NoText : List Value} {sn_NoText : List Str} {ab_NoText : Bool} {col_NoText : Option Bool} {dd_NoText : Option Addr} {k0_NoText k1_NoText k2_NoText k3_NoText k5_NoText : Option Value} {oc_NoText kV_NoText dc_NoText pm_NoText cd2_NoText ct2_NoText : Value} {od_NoText an_NoText : Option Addr} {sl_NoText : Array (Option Value)}
    (a_is_number : PySem.W.nsIn K mainGlobals "is_number" = some (some (.ref f_is_number))) (l_is_number : K.lookup f_is_number = some ⟨oc_is_number, od_is_number, .func (PySem.W.fnOf "is_number" "is_number" (defArgs (top 24)) (defBody (top 24)) (defScope (top 24)) .none kV_is_number dc_is_number pm_is_number an_is_number cd_is_number ct_is_number), sl_is_number⟩) (c_is_number : PySem.W.codeIn K cd_is_number "is_number" = true) (k_is_number : PySem.W.keepIn K (.ref f_is_number) = true)
    (a_are_unlike_names : PySem.W.nsIn K mainGlobals "are_unlike_names" = some (some (.ref f_are_unlike_names))) (l_are_unlike_names : K.lookup f_are_unlike_names = some ⟨oc_are_unlike_names, od_are_unlike_names, .func (PySem.W.fnOf "are_unlike_names" "are_unlike_names" (defArgs (top 25)) (defBody (top 25)) (defScope (top 25)) .none kV_are_unlike_names dc_are_unlike_names pm_are_unlike_names an_are_unlike_names cd_are_unlike_names ct_are_unlike_names), sl_are_unlike_names⟩) (c_are_unlike_names : PySem.W.codeIn K cd_are_unlike_names "are_unlike_names" = true) (k_are_unlike_names : PySem.W.keepIn K (.ref f_are_unlike_names) = true)
    (a_is_ranking : PySem.W.nsIn K mainGlobals "is_ranking" = some (some (.ref f_is_ranking))) (l_is_ranking : K.lookup f_is_ranking = some ⟨oc_is_ranking, od_is_ranking, .func (PySem.W.fnOf "is_ranking" "is_ranking" (defArgs (top 26)) (defBody (top 26)) (defScope (top 26)) .none kV_is_ranking dc_is_ranking pm_is_ranking an_is_ranking cd_is_ranking ct_is_ranking), sl_is_ranking⟩) (c_is_ranking : PySem.W.codeIn K cd_is_ranking "is_ranking" = true) (k_is_ranking : PySem.W.keepIn K (.ref f_is_ranking) = true)
    (a_number_of : PySem.W.nsIn K mainGlobals "number_of" = some (some (.ref f_number_of))) (l_number_of : K.lookup f_number_of = some ⟨oc_number_of, od_number_of, .func (PySem.W.fnOf "number_of" "number_of" (defArgs (top 30)) (defBody (top 30)) (defScope (top 30)) .none kV_number_of dc_number_of pm_number_of an_number_of cd_number_of ct_number_of), sl_number_of⟩) (c_number_of : PySem.W.codeIn K cd_number_of "number_of" = true) (k_number_of : PySem.W.keepIn K (.ref f_number_of) = true)
    (a_ranking_of : PySem.W.nsIn K mainGlobals "ranking_of" = some (some (.ref f_ranking_of))) (l_ranking_of : K.lookup f_ranking_of = some ⟨oc_ranking_of, od_ranking_of, .func (PySem.W.fnOf "ranking_of" "ranking_of" (defArgs (top 31)) (defBody (top 31)) (defScope (top 31)) .none kV_ranking_of dc_ranking_of pm_ranking_of an_ranking_of cd_ranking_of ct_ranking_of), sl_ranking_of⟩) (c_ranking_of : PySem.W.codeIn K cd_ranking_of "ranking_of" = true) (k_ranking_of : PySem.W.keepIn K (.ref f_ranking_of) = true)
    (a_read_ranking : PySem.W.nsIn K mainGlobals "read_ranking" = some (some (.ref f_read_ranking))) (l_read_ranking : K.lookup f_read_ranking = some ⟨oc_read_ranking, od_read_ranking, .func (PySem.W.fnOf "read_ranking" "read_ranking" (defArgs (top 32)) (defBody (top 32)) (defScope (top 32)) .none kV_read_ranking dc_read_ranking pm_read_ranking an_read_ranking cd_read_ranking ct_read_ranking), sl_read_ranking⟩) (c_read_ranking : PySem.W.codeIn K cd_read_ranking "read_ranking" = true) (k_read_ranking : PySem.W.keepIn K (.ref f_read_ranking) = true)
    (a_read_folk : PySem.W.nsIn K mainGlobals "read_folk" = some (some (.ref f_read_folk))) (l_read_folk : K.lookup f_read_folk = some ⟨oc_read_folk, od_read_folk, .func (PySem.W.fnOf "read_folk" "read_folk" (defArgs (top 33)) (defBody (top 33)) (defScope (top 33)) .none kV_read_folk dc_read_folk pm_read_folk an_read_folk cd_read_folk ct_read_folk), sl_read_folk⟩) (c_read_folk : PySem.W.codeIn K cd_read_folk "read_folk" = true) (k_read_folk : PySem.W.keepIn K (.ref f_read_folk) = true)
    (a__law_mix : PySem.W.nsIn K mainGlobals "_law_mix" = some (some (.ref f__law_mix))) (l__law_mix : K.lookup f__law_mix = some ⟨oc__law_mix, od__law_mix, .func (PySem.W.fnOf "_law_mix" "_law_mix" (defArgs (top 35)) (defBody (top 35)) (defScope (top 35)) .none kV__law_mix dc__law_mix pm__law_mix an__law_mix cd__law_mix ct__law_mix), sl__law_mix⟩) (c__law_mix : PySem.W.codeIn K cd__law_mix "_law_mix" = true) (k__law_mix : PySem.W.keepIn K (.ref f__law_mix) = true)
    (a__law_left : PySem.W.nsIn K mainGlobals "_law_left" = some (some (.ref f__law_left))) (l__law_left : K.lookup f__law_left = some ⟨oc__law_left, od__law_left, .func (PySem.W.fnOf "_law_left" "_law_left" (defArgs (top 36)) (defBody (top 36)) (defScope (top 36)) .none kV__law_left dc__law_left pm__law_left an__law_left cd__law_left ct__law_left), sl__law_left⟩) (c__law_left : PySem.W.codeIn K cd__law_left "_law_left" = true) (k__law_left : PySem.W.keepIn K (.ref f__law_left) = true)
    (a__law_draw : PySem.W.nsIn K mainGlobals "_law_draw" = some (some (.ref f__law_draw))) (l__law_draw : K.lookup f__law_draw = some ⟨oc__law_draw, od__law_draw, .func (PySem.W.fnOf "_law_draw" "_law_draw" (defArgs (top 37)) (defBody (top 37)) (defScope (top 37)) .none kV__law_draw dc__law_draw pm__law_draw an__law_draw cd__law_draw ct__law_draw), sl__law_draw⟩) (c__law_draw : PySem.W.codeIn K cd__law_draw "_law_draw" = true) (k__law_draw : PySem.W.keepIn K (.ref f__law_draw) = true)
    (a__law_names : PySem.W.nsIn K mainGlobals "_law_names" = some (some (.ref f__law_names))) (l__law_names : K.lookup f__law_names = some ⟨oc__law_names, od__law_names, .func (PySem.W.fnOf "_law_names" "_law_names" (defArgs (top 38)) (defBody (top 38)) (defScope (top 38)) .none kV__law_names dc__law_names pm__law_names an__law_names cd__law_names ct__law_names), sl__law_names⟩) (c__law_names : PySem.W.codeIn K cd__law_names "_law_names" = true) (k__law_names : PySem.W.keepIn K (.ref f__law_names) = true)
    (a__law_shuffled : PySem.W.nsIn K mainGlobals "_law_shuffled" = some (some (.ref f__law_shuffled))) (l__law_shuffled : K.lookup f__law_shuffled = some ⟨oc__law_shuffled, od__law_shuffled, .func (PySem.W.fnOf "_law_shuffled" "_law_shuffled" (defArgs (top 39)) (defBody (top 39)) (defScope (top 39)) .none kV__law_shuffled dc__law_shuffled pm__law_shuffled an__law_shuffled cd__law_shuffled ct__law_shuffled), sl__law_shuffled⟩) (c__law_shuffled : PySem.W.codeIn K cd__law_shuffled "_law_shuffled" = true) (k__law_shuffled : PySem.W.keepIn K (.ref f__law_shuffled) = true)
    (a__law_tree : PySem.W.nsIn K mainGlobals "_law_tree" = some (some (.ref f__law_tree))) (l__law_tree : K.lookup f__law_tree = some ⟨oc__law_tree, od__law_tree, .func (PySem.W.fnOf "_law_tree" "_law_tree" (defArgs (top 40)) (defBody (top 40)) (defScope (top 40)) .none kV__law_tree dc__law_tree pm__law_tree an__law_tree cd__law_tree ct__law_tree), sl__law_tree⟩) (c__law_tree : PySem.W.codeIn K cd__law_tree "_law_tree" = true) (k__law_tree : PySem.W.keepIn K (.ref f__law_tree) = true)
    (a__law_falling : PySem.W.nsIn K mainGlobals "_law_falling" = some (some (.ref f__law_falling))) (l__law_falling : K.lookup f__law_falling = some ⟨oc__law_falling, od__law_falling, .func (PySem.W.fnOf "_law_falling" "_law_falling" (defArgs (top 41)) (defBody (top 41)) (defScope (top 41)) .none kV__law_falling dc__law_falling pm__law_falling an__law_falling cd__law_falling ct__law_falling), sl__law_falling⟩) (c__law_falling : PySem.W.codeIn K cd__law_falling "_law_falling" = true) (k__law_falling : PySem.W.keepIn K (.ref f__law_falling) = true)
    (a__law_folk : PySem.W.nsIn K mainGlobals "_law_folk" = some (some (.ref f__law_folk))) (l__law_folk : K.lookup f__law_folk = some ⟨oc__law_folk, od__law_folk, .func (PySem.W.fnOf "_law_folk" "_law_folk" (defArgs (top 42)) (defBody (top 42)) (defScope (top 42)) .none kV__law_folk dc__law_folk pm__law_folk an__law_folk cd__law_folk ct__law_folk), sl__law_folk⟩) (c__law_folk : PySem.W.codeIn K cd__law_folk "_law_folk" = true) (k__law_folk : PySem.W.keepIn K (.ref f__law_folk) = true)
    (a__law_marks : PySem.W.nsIn K mainGlobals "_law_marks" = some (some (.ref f__law_marks))) (l__law_marks : K.lookup f__law_marks = some ⟨oc__law_marks, od__law_marks, .func (PySem.W.fnOf "_law_marks" "_law_marks" (defArgs (top 43)) (defBody (top 43)) (defScope (top 43)) .none kV__law_marks dc__law_marks pm__law_marks an__law_marks cd__law_marks ct__law_marks), sl__law_marks⟩) (c__law_marks : PySem.W.codeIn K cd__law_marks "_law_marks" = true) (k__law_marks : PySem.W.keepIn K (.ref f__law_marks) = true)
    (a__law_figured : PySem.W.nsIn K mainGlobals "_law_figured" = some (some (.ref f__law_figured))) (l__law_figured : K.lookup f__law_figured = some ⟨oc__law_figured, od__law_figured, .func (PySem.W.fnOf "_law_figured" "_law_figured" (defArgs (top 44)) (defBody (top 44)) (defScope (top 44)) .none kV__law_figured dc__law_figured pm__law_figured an__law_figured cd__law_figured ct__law_figured), sl__law_figured⟩) (c__law_figured : PySem.W.codeIn K cd__law_figured "_law_figured" = true) (k__law_figured : PySem.W.keepIn K (.ref f__law_figured) = true)
    (a__law_ranked : PySem.W.nsIn K mainGlobals "_law_ranked" = some (some (.ref f__law_ranked))) (l__law_ranked : K.lookup f__law_ranked = some ⟨oc__law_ranked, od__law_ranked, .func (PySem.W.fnOf "_law_ranked" "_law_ranked" (defArgs (top 45)) (defBody (top 45)) (defScope (top 45)) .none kV__law_ranked dc__law_ranked pm__law_ranked an__law_ranked cd__law_ranked ct__law_ranked), sl__law_ranked⟩) (c__law_ranked : PySem.W.codeIn K cd__law_ranked "_law_ranked" = true) (k__law_ranked : PySem.W.keepIn K (.ref f__law_ranked) = true)
    (a__law_folk_of : PySem.W.nsIn K mainGlobals "_law_folk_of" = some (some (.ref f__law_folk_of))) (l__law_folk_of : K.lookup f__law_folk_of = some ⟨oc__law_folk_of, od__law_folk_of, .func (PySem.W.fnOf "_law_folk_of" "_law_folk_of" (defArgs (top 46)) (defBody (top 46)) (defScope (top 46)) .none kV__law_folk_of dc__law_folk_of pm__law_folk_of an__law_folk_of cd__law_folk_of ct__law_folk_of), sl__law_folk_of⟩) (c__law_folk_of : PySem.W.codeIn K cd__law_folk_of "_law_folk_of" = true) (k__law_folk_of : PySem.W.keepIn K (.ref f__law_folk_of) = true)
    (a__law_told : PySem.W.nsIn K mainGlobals "_law_told" = some (some (.ref f__law_told))) (l__law_told : K.lookup f__law_told = some ⟨oc__law_told, od__law_told, .func (PySem.W.fnOf "_law_told" "_law_told" (defArgs (top 47)) (defBody (top 47)) (defScope (top 47)) .none kV__law_told dc__law_told pm__law_told an__law_told cd__law_told ct__law_told), sl__law_told⟩) (c__law_told : PySem.W.codeIn K cd__law_told "_law_told" = true) (k__law_told : PySem.W.keepIn K (.ref f__law_told) = true)
    (a__law_bent : PySem.W.nsIn K mainGlobals "_law_bent" = some (some (.ref f__law_bent))) (l__law_bent : K.lookup f__law_bent = some ⟨oc__law_bent, od__law_bent, .func (PySem.W.fnOf "_law_bent" "_law_bent" (defArgs (top 48)) (defBody (top 48)) (defScope (top 48)) .none kV__law_bent dc__law_bent pm__law_bent an__law_bent cd__law_bent ct__law_bent), sl__law_bent⟩) (c__law_bent : PySem.W.codeIn K cd__law_bent "_law_bent" = true) (k__law_bent : PySem.W.keepIn K (.ref f__law_bent) = true)
    (a__law_refusals_held : PySem.W.nsIn K mainGlobals "_law_refusals_held" = some (some (.ref f__law_refusals_held))) (l__law_refusals_held : K.lookup f__law_refusals_held = some ⟨oc__law_refusals_held, od__law_refusals_held, .func (PySem.W.fnOf "_law_refusals_held" "_law_refusals_held" (defArgs (top 49)) (defBody (top 49)) (defScope (top 49)) .none kV__law_refusals_held dc__law_refusals_held pm__law_refusals_held an__law_refusals_held cd__law_refusals_held ct__law_refusals_held), sl__law_refusals_held⟩) (c__law_refusals_held : PySem.W.codeIn K cd__law_refusals_held "_law_refusals_held" = true) (k__law_refusals_held : PySem.W.keepIn K (.ref f__law_refusals_held) = true)
    (a_law : PySem.W.nsIn K mainGlobals "law" = some (some (.ref f_law))) (l_law : K.lookup f_law = some ⟨oc_law, od_law, .func (PySem.W.fnOf "law" "law" (defArgs (top 50)) (defBody (top 50)) (defScope (top 50)) .none kV_law dc_law pm_law an_law cd_law ct_law), sl_law⟩) (c_law : PySem.W.codeIn K cd_law "law" = true) (k_law : PySem.W.keepIn K (.ref f_law) = true)
    (z_isinstance : PySem.W.nsIn K mainGlobals "isinstance" = some none)
    (z_int : PySem.W.nsIn K mainGlobals "int" = some none)
    (z_bool : PySem.W.nsIn K mainGlobals "bool" = some none)
    (z_len : PySem.W.nsIn K mainGlobals "len" = some none)
    (z_list : PySem.W.nsIn K mainGlobals "list" = some none)
    (z_all : PySem.W.nsIn K mainGlobals "all" = some none)
    (z_set : PySem.W.nsIn K mainGlobals "set" = some none)
    (z_enumerate : PySem.W.nsIn K mainGlobals "enumerate" = some none)
    (z_sorted : PySem.W.nsIn K mainGlobals "sorted" = some none)
    (z_range : PySem.W.nsIn K mainGlobals "range" = some none)
    (z_min : PySem.W.nsIn K mainGlobals "min" = some none)
    (z_max : PySem.W.nsIn K mainGlobals "max" = some none)
    (z_ValueError : PySem.W.nsIn K mainGlobals "ValueError" = some none)
    (z_zip : PySem.W.nsIn K mainGlobals "zip" = some none)
    (z_str : PySem.W.nsIn K mainGlobals "str" = some none)
    (g_MOST_NAMES : PySem.W.nsIn K mainGlobals "MOST_NAMES" = some (some (.int 10 t_MOST_NAMES)))
    (g_MOST_FIGURES : PySem.W.nsIn K mainGlobals "MOST_FIGURES" = some (some (.int 30 t_MOST_FIGURES)))
    (g_FIGURES : PySem.W.nsIn K mainGlobals "FIGURES" = some (some (.str "0123456789" t_FIGURES)))
    (g_MOST_HANDS : PySem.W.nsIn K mainGlobals "MOST_HANDS" = some (some (.int 20 t_MOST_HANDS)))
    (ca_NoText : PySem.W.nsIn K mainGlobals "NoText" = some (some (.ref C_NoText)))
    (cb_NoText : PySem.W.subIn K (.ref C_NoText) (.type "BaseException") = some true)
    (ct_NoText : PySem.W.typeIn K (.ref C_NoText) = some (.type "type"))
    (cd_NoText : PySem.W.hasDictIn K C_NoText = true)
    (ca_FolkError : PySem.W.nsIn K mainGlobals "FolkError" = some (some (.ref C_FolkError)))
    (cb_FolkError : PySem.W.subIn K (.ref C_FolkError) (.type "BaseException") = some true)
    (ct_FolkError : PySem.W.typeIn K (.ref C_FolkError) = some (.type "type"))
    (cd_FolkError : PySem.W.hasDictIn K C_FolkError = true)
    (ck_NoText : PySem.W.keepIn K (.ref C_NoText) = true)
    (cv_NoText : PySem.W.subIn K (.ref C_NoText) (.type "ValueError") = some true)
    (cg_NoText : PySem.W.findIn K (.ref C_NoText) "__getattribute__" = some (some (.builtin "BaseException.__getattribute__")))
    (ch_NoText : PySem.W.findIn K (.ref C_NoText) "__getattr__" = some none)
    (cc_NoText : PySem.W.findIn K (.ref C_NoText) "__class__" = some (some (.builtin "object.__class__")))
    (cm_NoText : PySem.W.mroIn K C_NoText (.type "object") = some true)
    (cf_NoText : PySem.W.subIn K (.ref C_NoText) (.ref C_FolkError) = some true)
    (cp_NoText_NoText : PySem.W.subIn K (.ref C_NoText) (.ref C_NoText) = some true)
    (ca_NoBack : PySem.W.nsIn K mainGlobals "NoBack" = some (some (.ref C_NoBack)))
    (ct_NoBack : PySem.W.typeIn K (.ref C_NoBack) = some (.type "type"))
    (cd_NoBack : PySem.W.hasDictIn K C_NoBack = true)
    (cp_NoText_NoBack : PySem.W.subIn K (.ref C_NoText) (.ref C_NoBack) = some false)
    (ca_NoFall : PySem.W.nsIn K mainGlobals "NoFall" = some (some (.ref C_NoFall)))
    (ct_NoFall : PySem.W.typeIn K (.ref C_NoFall) = some (.type "type"))
    (cd_NoFall : PySem.W.hasDictIn K C_NoFall = true)
    (cp_NoText_NoFall : PySem.W.subIn K (.ref C_NoText) (.ref C_NoFall) = some false)
    (ca_NoFit : PySem.W.nsIn K mainGlobals "NoFit" = some (some (.ref C_NoFit)))
    (ct_NoFit : PySem.W.typeIn K (.ref C_NoFit) = some (.type "type"))
    (cd_NoFit : PySem.W.hasDictIn K C_NoFit = true)
    (cp_NoText_NoFit : PySem.W.subIn K (.ref C_NoText) (.ref C_NoFit) = some false)
    (ca_NoFixed : PySem.W.nsIn K mainGlobals "NoFixed" = some (some (.ref C_NoFixed)))
    (ct_NoFixed : PySem.W.typeIn K (.ref C_NoFixed) = some (.type "type"))
    (cd_NoFixed : PySem.W.hasDictIn K C_NoFixed = true)
    (cp_NoText_NoFixed : PySem.W.subIn K (.ref C_NoText) (.ref C_NoFixed) = some false)
    (ca_NoFolk : PySem.W.nsIn K mainGlobals "NoFolk" = some (some (.ref C_NoFolk)))
    (ct_NoFolk : PySem.W.typeIn K (.ref C_NoFolk) = some (.type "type"))
    (cd_NoFolk : PySem.W.hasDictIn K C_NoFolk = true)
    (cp_NoText_NoFolk : PySem.W.subIn K (.ref C_NoText) (.ref C_NoFolk) = some false)
    (ca_NoHand : PySem.W.nsIn K mainGlobals "NoHand" = some (some (.ref C_NoHand)))
    (ct_NoHand : PySem.W.typeIn K (.ref C_NoHand) = some (.type "type"))
    (cd_NoHand : PySem.W.hasDictIn K C_NoHand = true)
    (cp_NoText_NoHand : PySem.W.subIn K (.ref C_NoText) (.ref C_NoHand) = some false)
    (ca_NoLine : PySem.W.nsIn K mainGlobals "NoLine" = some (some (.ref C_NoLine)))
    (ct_NoLine : PySem.W.typeIn K (.ref C_NoLine) = some (.type "type"))
    (cd_NoLine : PySem.W.hasDictIn K C_NoLine = true)
    (cp_NoText_NoLine : PySem.W.subIn K (.ref C_NoText) (.ref C_NoLine) = some false)
    (ca_NoNames : PySem.W.nsIn K mainGlobals "NoNames" = some (some (.ref C_NoNames)))
    (ct_NoNames : PySem.W.typeIn K (.ref C_NoNames) = some (.type "type"))
    (cd_NoNames : PySem.W.hasDictIn K C_NoNames = true)
    (cp_NoText_NoNames : PySem.W.subIn K (.ref C_NoText) (.ref C_NoNames) = some false)
    (ca_NoNumber : PySem.W.nsIn K mainGlobals "NoNumber" = some (some (.ref C_NoNumber)))
    (ct_NoNumber : PySem.W.typeIn K (.ref C_NoNumber) = some (.type "type"))
    (cd_NoNumber : PySem.W.hasDictIn K C_NoNumber = true)
    (cp_NoText_NoNumber : PySem.W.subIn K (.ref C_NoText) (.ref C_NoNumber) = some false)
    (ca_NoPaper : PySem.W.nsIn K mainGlobals "NoPaper" = some (some (.ref C_NoPaper)))
    (ct_NoPaper : PySem.W.typeIn K (.ref C_NoPaper) = some (.type "type"))
    (cd_NoPaper : PySem.W.hasDictIn K C_NoPaper = true)
    (cp_NoText_NoPaper : PySem.W.subIn K (.ref C_NoText) (.ref C_NoPaper) = some false)
    (ca_NoRanking : PySem.W.nsIn K mainGlobals "NoRanking" = some (some (.ref C_NoRanking)))
    (ct_NoRanking : PySem.W.typeIn K (.ref C_NoRanking) = some (.type "type"))
    (cd_NoRanking : PySem.W.hasDictIn K C_NoRanking = true)
    (cp_NoText_NoRanking : PySem.W.subIn K (.ref C_NoText) (.ref C_NoRanking) = some false)
    (ca_NoRow : PySem.W.nsIn K mainGlobals "NoRow" = some (some (.ref C_NoRow)))
    (ct_NoRow : PySem.W.typeIn K (.ref C_NoRow) = some (.type "type"))
    (cd_NoRow : PySem.W.hasDictIn K C_NoRow = true)
    (cp_NoText_NoRow : PySem.W.subIn K (.ref C_NoText) (.ref C_NoRow) = some false)
    (ca_NoRule : PySem.W.nsIn K mainGlobals "NoRule" = some (some (.ref C_NoRule)))
    (ct_NoRule : PySem.W.typeIn K (.ref C_NoRule) = some (.type "type"))
    (cd_NoRule : PySem.W.hasDictIn K C_NoRule = true)
    (cp_NoText_NoRule : PySem.W.subIn K (.ref C_NoText) (.ref C_NoRule) = some false)
    (ca_NoTitle : PySem.W.nsIn K mainGlobals "NoTitle" = some (some (.ref C_NoTitle)))
    (ct_NoTitle : PySem.W.typeIn K (.ref C_NoTitle) = some (.type "type"))
    (cd_NoTitle : PySem.W.hasDictIn K C_NoTitle = true)
    (cp_NoText_NoTitle : PySem.W.subIn K (.ref C_NoText) (.ref C_NoTitle) = some false)
    (ca_NoTops : PySem.W.nsIn K mainGlobals "NoTops" = some (some (.ref C_NoTops)))
    (ct_NoTops : PySem.W.typeIn K (.ref C_NoTops) = some (.type "type"))
    (cd_NoTops : PySem.W.hasDictIn K C_NoTops = true)
    (cp_NoText_NoTops : PySem.W.subIn K (.ref C_NoText) (.ref C_NoTops) = some false)
    (ca_NoTree : PySem.W.nsIn K mainGlobals "NoTree" = some (some (.ref C_NoTree)))
    (ct_NoTree : PySem.W.typeIn K (.ref C_NoTree) = some (.type "type"))
    (cd_NoTree : PySem.W.hasDictIn K C_NoTree = true)
    (cp_NoText_NoTree : PySem.W.subIn K (.ref C_NoText) (.ref C_NoTree) = some false)
    (ca_NoWeights : PySem.W.nsIn K mainGlobals "NoWeights" = some (some (.ref C_NoWeights)))
    (ct_NoWeights : PySem.W.typeIn K (.ref C_NoWeights) = some (.type "type"))
    (cd_NoWeights : PySem.W.hasDictIn K C_NoWeights = true)
    (cp_NoText_NoWeights : PySem.W.subIn K (.ref C_NoText) (.ref C_NoWeights) = some false)
    (ca_TooGreat : PySem.W.nsIn K mainGlobals "TooGreat" = some (some (.ref C_TooGreat)))
    (ct_TooGreat : PySem.W.typeIn K (.ref C_TooGreat) = some (.type "type"))
    (cd_TooGreat : PySem.W.hasDictIn K C_TooGreat = true)
    (cp_NoText_TooGreat : PySem.W.subIn K (.ref C_NoText) (.ref C_TooGreat) = some false)
    (co_NoText : K.lookup C_NoText = some (excClassObj nm_NoText qn_NoText C_NoText N_NoText bs_NoText bm_NoText true sn_NoText sub_NoText ab_NoText col_NoText dd_NoText k0_NoText k1_NoText k2_NoText k3_NoText k5_NoText "ValueError.__new__"))
    (gk_NoText : PySem.HandSPX.refsVE bm_NoText = true)
    (cs_NoText : PySem.W.findIn K (.ref C_NoText) "__setattr__" = some (some (.builtin "object.__setattr__")))
    (cn_NoText : PySem.W.findIn K (.ref C_NoText) "at" = some none)
    (ci_NoText : PySem.W.findIn K (.ref C_NoText) "__init__" = some (some (.ref fi_NoText)))
    (cy_NoText : PySem.W.typeIn K (.ref fi_NoText) = some (.type "function"))
    (cl_NoText : K.lookup fi_NoText = some ⟨oc_NoText, od_NoText, .func (PySem.W.fnOf "__init__" "NoText.__init__" (defArgs (inSt (top 10))) (defBody (inSt (top 10))) (defScope (inSt (top 10))) .none kV_NoText dc_NoText pm_NoText an_NoText cd2_NoText ct2_NoText), sl_NoText⟩)
    (cc2_NoText : PySem.W.codeIn K cd2_NoText "NoText.__init__" = true)
    (ck2_NoText : PySem.W.keepIn K (.ref fi_NoText) = true)
    (cr_F : PySem.W.readsIn K C_FolkError (.type "type") = true)
    (cg_F : PySem.W.specialIn K (.ref C_FolkError) "__getattribute__" = some (some (.builtin "type.__getattribute__")))
    (cf_F : PySem.W.findCls K (.ref C_FolkError) (.type "type") "__init__" = some (.val (.builtin "ValueError.__init__")))
    (c0_s : PySem.W.specialIn K (.builtin "object.__class__") "__get__" = some (some (.builtin "getset_descriptor.__get__")))
    (c0_t : PySem.W.takesIn K (.builtin "object.__class__") = some true) :
    ∃ fd : FuncData, (∀ (s : Shared) (v : Value), BindsTo s fd ⟨[v], []⟩ [("_law_script", v)]) ∧ ∀ base : Heap, K.In base → base.Ns mainGlobals mg → FnG P w K mg base (L2.CX P w) 7 fa fd ["_law_script"] (spLaw K) := by
  have E_NoText : ExG K mg "NoText" := exg_mk X G ca_NoText (fun _ h => absurd rfl h) ck_NoText cb_NoText ct_NoText cv_NoText cd_NoText cg_NoText ch_NoText cc_NoText cm_NoText c0_s c0_t
  have T : Txt K mg :=
    { b_isinstance := PySem.W.mg_none_of X G z_isinstance
      b_int := PySem.W.mg_none_of X G z_int
      b_bool := PySem.W.mg_none_of X G z_bool
      b_len := PySem.W.mg_none_of X G z_len
      b_list := PySem.W.mg_none_of X G z_list
      b_all := PySem.W.mg_none_of X G z_all
      b_set := PySem.W.mg_none_of X G z_set
      b_enumerate := PySem.W.mg_none_of X G z_enumerate
      b_sorted := PySem.W.mg_none_of X G z_sorted
      b_range := PySem.W.mg_none_of X G z_range
      b_min := PySem.W.mg_none_of X G z_min
      b_max := PySem.W.mg_none_of X G z_max
      b_ValueError := PySem.W.mg_none_of X G z_ValueError
      b_zip := PySem.W.mg_none_of X G z_zip
      b_str := PySem.W.mg_none_of X G z_str
      c_MOST_NAMES := ⟨_, PySem.W.mg_of X G g_MOST_NAMES⟩
      c_MOST_FIGURES := ⟨_, PySem.W.mg_of X G g_MOST_FIGURES⟩
      c_FIGURES := ⟨_, PySem.W.mg_of X G g_FIGURES⟩
      c_MOST_HANDS := ⟨_, PySem.W.mg_of X G g_MOST_HANDS⟩
      exc := ⟨by intro n hn; rw [List.mem_singleton.mp hn]; exact E_NoText, by intro n hn; rw [List.mem_singleton.mp hn]; exact top_mk ca_NoText ca_FolkError cb_FolkError cd_FolkError ct_FolkError cf_NoText, by intro n hn; rw [List.mem_singleton.mp hn]; (intro m hm; rw [List.mem_singleton.mp hm]; exact two_eq), mgF_mk X G ca_FolkError⟩
      ox_NoText := ox_mk X G rfl ca_NoText co_NoText gk_NoText cs_NoText cb_NoText ct_NoText ck_NoText cn_NoText ci_NoText cy_NoText cl_NoText cc2_NoText ck2_NoText (fun _ _ _ _ _ _ us hl => match us, hl with | [_, _], _ => rfl) ca_FolkError cr_F cg_F cf_F
      exy_NoBack := ⟨gY_mk X G ca_NoBack, by intro n hn; rw [List.mem_singleton.mp hn]; exact two2_mk ca_NoText ca_NoBack cp_NoText_NoBack cp_NoText_NoText cd_NoBack ct_NoBack⟩
      exy_NoFall := ⟨gY_mk X G ca_NoFall, by intro n hn; rw [List.mem_singleton.mp hn]; exact two2_mk ca_NoText ca_NoFall cp_NoText_NoFall cp_NoText_NoText cd_NoFall ct_NoFall⟩
      exy_NoFit := ⟨gY_mk X G ca_NoFit, by intro n hn; rw [List.mem_singleton.mp hn]; exact two2_mk ca_NoText ca_NoFit cp_NoText_NoFit cp_NoText_NoText cd_NoFit ct_NoFit⟩
      exy_NoFixed := ⟨gY_mk X G ca_NoFixed, by intro n hn; rw [List.mem_singleton.mp hn]; exact two2_mk ca_NoText ca_NoFixed cp_NoText_NoFixed cp_NoText_NoText cd_NoFixed ct_NoFixed⟩
      exy_NoFolk := ⟨gY_mk X G ca_NoFolk, by intro n hn; rw [List.mem_singleton.mp hn]; exact two2_mk ca_NoText ca_NoFolk cp_NoText_NoFolk cp_NoText_NoText cd_NoFolk ct_NoFolk⟩
      exy_NoHand := ⟨gY_mk X G ca_NoHand, by intro n hn; rw [List.mem_singleton.mp hn]; exact two2_mk ca_NoText ca_NoHand cp_NoText_NoHand cp_NoText_NoText cd_NoHand ct_NoHand⟩
      exy_NoLine := ⟨gY_mk X G ca_NoLine, by intro n hn; rw [List.mem_singleton.mp hn]; exact two2_mk ca_NoText ca_NoLine cp_NoText_NoLine cp_NoText_NoText cd_NoLine ct_NoLine⟩
      exy_NoNames := ⟨gY_mk X G ca_NoNames, by intro n hn; rw [List.mem_singleton.mp hn]; exact two2_mk ca_NoText ca_NoNames cp_NoText_NoNames cp_NoText_NoText cd_NoNames ct_NoNames⟩
      exy_NoNumber := ⟨gY_mk X G ca_NoNumber, by intro n hn; rw [List.mem_singleton.mp hn]; exact two2_mk ca_NoText ca_NoNumber cp_NoText_NoNumber cp_NoText_NoText cd_NoNumber ct_NoNumber⟩
      exy_NoPaper := ⟨gY_mk X G ca_NoPaper, by intro n hn; rw [List.mem_singleton.mp hn]; exact two2_mk ca_NoText ca_NoPaper cp_NoText_NoPaper cp_NoText_NoText cd_NoPaper ct_NoPaper⟩
      exy_NoRanking := ⟨gY_mk X G ca_NoRanking, by intro n hn; rw [List.mem_singleton.mp hn]; exact two2_mk ca_NoText ca_NoRanking cp_NoText_NoRanking cp_NoText_NoText cd_NoRanking ct_NoRanking⟩
      exy_NoRow := ⟨gY_mk X G ca_NoRow, by intro n hn; rw [List.mem_singleton.mp hn]; exact two2_mk ca_NoText ca_NoRow cp_NoText_NoRow cp_NoText_NoText cd_NoRow ct_NoRow⟩
      exy_NoRule := ⟨gY_mk X G ca_NoRule, by intro n hn; rw [List.mem_singleton.mp hn]; exact two2_mk ca_NoText ca_NoRule cp_NoText_NoRule cp_NoText_NoText cd_NoRule ct_NoRule⟩
      exy_NoTitle := ⟨gY_mk X G ca_NoTitle, by intro n hn; rw [List.mem_singleton.mp hn]; exact two2_mk ca_NoText ca_NoTitle cp_NoText_NoTitle cp_NoText_NoText cd_NoTitle ct_NoTitle⟩
      exy_NoTops := ⟨gY_mk X G ca_NoTops, by intro n hn; rw [List.mem_singleton.mp hn]; exact two2_mk ca_NoText ca_NoTops cp_NoText_NoTops cp_NoText_NoText cd_NoTops ct_NoTops⟩
      exy_NoTree := ⟨gY_mk X G ca_NoTree, by intro n hn; rw [List.mem_singleton.mp hn]; exact two2_mk ca_NoText ca_NoTree cp_NoText_NoTree cp_NoText_NoText cd_NoTree ct_NoTree⟩
      exy_NoWeights := ⟨gY_mk X G ca_NoWeights, by intro n hn; rw [List.mem_singleton.mp hn]; exact two2_mk ca_NoText ca_NoWeights cp_NoText_NoWeights cp_NoText_NoText cd_NoWeights ct_NoWeights⟩
      exy_TooGreat := ⟨gY_mk X G ca_TooGreat, by intro n hn; rw [List.mem_singleton.mp hn]; exact two2_mk ca_NoText ca_TooGreat cp_NoText_TooGreat cp_NoText_NoText cd_TooGreat ct_TooGreat⟩
      d_is_number := wr_mk X G a_is_number l_is_number c_is_number k_is_number fun _ _ _ _ _ _ us hl => match us, hl with | [_], _ => rfl
      d_are_unlike_names := wr_mk X G a_are_unlike_names l_are_unlike_names c_are_unlike_names k_are_unlike_names fun _ _ _ _ _ _ us hl => match us, hl with | [_], _ => rfl
      d_is_ranking := wr_mk X G a_is_ranking l_is_ranking c_is_ranking k_is_ranking fun _ _ _ _ _ _ us hl => match us, hl with | [_], _ => rfl
      d_number_of := wr_mk X G a_number_of l_number_of c_number_of k_number_of fun _ _ _ _ _ _ us hl => match us, hl with | [_], _ => rfl
      d_ranking_of := wr_mk X G a_ranking_of l_ranking_of c_ranking_of k_ranking_of fun _ _ _ _ _ _ us hl => match us, hl with | [_], _ => rfl
      d_read_ranking := wr_mk X G a_read_ranking l_read_ranking c_read_ranking k_read_ranking fun _ _ _ _ _ _ us hl => match us, hl with | [_], _ => rfl
      d_read_folk := wr_mk X G a_read_folk l_read_folk c_read_folk k_read_folk fun _ _ _ _ _ _ us hl => match us, hl with | [_], _ => rfl
      d__law_mix := wr_mk X G a__law_mix l__law_mix c__law_mix k__law_mix fun _ _ _ _ _ _ us hl => match us, hl with | [_, _], _ => rfl
      d__law_left := wr_mk X G a__law_left l__law_left c__law_left k__law_left fun _ _ _ _ _ _ us hl => match us, hl with | [_], _ => rfl
      d__law_draw := wr_mk X G a__law_draw l__law_draw c__law_draw k__law_draw fun _ _ _ _ _ _ us hl => match us, hl with | [_, _], _ => rfl
      d__law_names := wr_mk X G a__law_names l__law_names c__law_names k__law_names fun _ _ _ _ _ _ us hl => match us, hl with | [_, _], _ => rfl
      d__law_shuffled := wr_mk X G a__law_shuffled l__law_shuffled c__law_shuffled k__law_shuffled fun _ _ _ _ _ _ us hl => match us, hl with | [_, _], _ => rfl
      d__law_tree := wr_mk X G a__law_tree l__law_tree c__law_tree k__law_tree fun _ _ _ _ _ _ us hl => match us, hl with | [_, _], _ => rfl
      d__law_falling := wr_mk X G a__law_falling l__law_falling c__law_falling k__law_falling fun _ _ _ _ _ _ us hl => match us, hl with | [_, _, _], _ => rfl
      d__law_folk := wr_mk X G a__law_folk l__law_folk c__law_folk k__law_folk fun _ _ _ _ _ _ us hl => match us, hl with | [_, _, _], _ => rfl
      d__law_marks := wr_mk X G a__law_marks l__law_marks c__law_marks k__law_marks fun _ _ _ _ _ _ us hl => match us, hl with | [_], _ => rfl
      d__law_figured := wr_mk X G a__law_figured l__law_figured c__law_figured k__law_figured fun _ _ _ _ _ _ us hl => match us, hl with | [_], _ => rfl
      d__law_ranked := wr_mk X G a__law_ranked l__law_ranked c__law_ranked k__law_ranked fun _ _ _ _ _ _ us hl => match us, hl with | [_], _ => rfl
      d__law_folk_of := wr_mk X G a__law_folk_of l__law_folk_of c__law_folk_of k__law_folk_of fun _ _ _ _ _ _ us hl => match us, hl with | [_], _ => rfl
      d__law_told := wr_mk X G a__law_told l__law_told c__law_told k__law_told fun _ _ _ _ _ _ us hl => match us, hl with | [_, _], _ => rfl
      d__law_bent := wr_mk X G a__law_bent l__law_bent c__law_bent k__law_bent fun _ _ _ _ _ _ us hl => match us, hl with | [_, _, _], _ => rfl
      d__law_refusals_held := wr_mk X G a__law_refusals_held l__law_refusals_held c__law_refusals_held k__law_refusals_held fun _ _ _ _ _ _ us hl => match us, hl with | [], _ => rfl }
  have e := hfa.symm.trans (PySem.W.mg_of X G a_law)
  cases e
  refine ⟨PySem.W.fnOf "law" "law" (defArgs (top 50)) (defBody (top 50)) (defScope (top 50)) .none kV_law dc_law pm_law an_law cd_law ct_law, fun s v => .of_eq rfl, fun base _ _ => ?_⟩
  let cl : String → Addr := clOf K
  have q_is_number := w_is_number (P := P) (w := w) (base := base) T   
  have q_are_unlike_names := w_are_unlike_names (P := P) (w := w) (base := base) T q_is_number  
  have q_is_ranking := w_is_ranking (P := P) (w := w) (base := base) T q_are_unlike_names  
  have q_number_of := w_number_of (P := P) (w := w) (base := base) T   
  have q_ranking_of := w_ranking_of (P := P) (w := w) (base := base) T q_is_ranking q_number_of  
  have q_read_ranking := w_read_ranking (P := P) (w := w) (base := base) T q_ranking_of  
  have q_read_folk := w_read_folk (P := P) (w := w) (base := base) T q_ranking_of  
  have q__law_mix := w__law_mix (P := P) (w := w) (base := base) T   
  have q__law_left := w__law_left (P := P) (w := w) (base := base) T   
  have q__law_draw := w__law_draw (P := P) (w := w) (base := base) T q__law_mix  
  have q__law_names := w__law_names (P := P) (w := w) (base := base) T q__law_draw  
  have q__law_shuffled := w__law_shuffled (P := P) (w := w) (base := base) T q__law_draw  
  have q__law_tree := w__law_tree (P := P) (w := w) (base := base) T q__law_draw q__law_shuffled  
  have q__law_falling := w__law_falling (P := P) (w := w) (base := base) T q__law_draw  
  have q__law_folk := w__law_folk (P := P) (w := w) (base := base) T q__law_draw q__law_shuffled q__law_falling  
  have q__law_marks := w__law_marks (P := P) (w := w) (base := base) T   
  have q__law_figured := w__law_figured (P := P) (w := w) (base := base) T   
  have q__law_ranked := w__law_ranked (P := P) (w := w) (base := base) T q__law_figured  
  have q__law_folk_of := w__law_folk_of (P := P) (w := w) (base := base) T q__law_ranked  
  have q__law_told := w__law_told (P := P) (w := w) (base := base) T q_read_ranking q_read_folk q__law_marks  
  have q__law_bent := w__law_bent (P := P) (w := w) (base := base) T q__law_draw  
  have q__law_refusals_held := w__law_refusals_held (P := P) (w := w) (base := base) T q_read_folk  
  exact w_law (P := P) (w := w) (base := base) T law_k81_ok q__law_left q__law_draw q__law_names q__law_tree q__law_folk q__law_ranked q__law_folk_of q__law_told q__law_bent q__law_refusals_held   (fun_mk l_law c_law k_law)
end K81
end DL
open PySem PySem.W PyProof.Rows in
set_option maxRecDepth 100000 in
set_option maxHeartbeats 0 in
theorem PySem.Challenge.cw_ontheline_k81_texts_of_no_folk_holds : PySem.Challenge.rw_ontheline_k81_texts_of_no_folk.Holds := by
  w_on; o_law; k_head; (case hw => w_witness2)
  k_fill
  refine DL.walk (l := PySem.Challenge.rw_ontheline_k81_texts_of_no_folk) (k := 7) (x := "_law_script") rfl rfl ⟨rfl, by decide, by decide⟩ (by unfold DL.tabA; rfl) (fun w h Y => PySem.W.kIn_of Y) ?F
  case F =>
    intro w mg fa h KX G hmg
    refine' DL.K81.all_mk KX G hmg ?a_is_number ?l_is_number ?c_is_number ?k_is_number ?a_are_unlike_names ?l_are_unlike_names ?c_are_unlike_names ?k_are_unlike_names ?a_is_ranking ?l_is_ranking ?c_is_ranking ?k_is_ranking ?a_number_of ?l_number_of ?c_number_of ?k_number_of ?a_ranking_of ?l_ranking_of ?c_ranking_of ?k_ranking_of ?a_read_ranking ?l_read_ranking ?c_read_ranking ?k_read_ranking ?a_read_folk ?l_read_folk ?c_read_folk ?k_read_folk ?a__law_mix ?l__law_mix ?c__law_mix ?k__law_mix ?a__law_left ?l__law_left ?c__law_left ?k__law_left ?a__law_draw ?l__law_draw ?c__law_draw ?k__law_draw ?a__law_names ?l__law_names ?c__law_names ?k__law_names ?a__law_shuffled ?l__law_shuffled ?c__law_shuffled ?k__law_shuffled ?a__law_tree ?l__law_tree ?c__law_tree ?k__law_tree ?a__law_falling ?l__law_falling ?c__law_falling ?k__law_falling ?a__law_folk ?l__law_folk ?c__law_folk ?k__law_folk ?a__law_marks ?l__law_marks ?c__law_marks ?k__law_marks ?a__law_figured ?l__law_figured ?c__law_figured ?k__law_figured ?a__law_ranked ?l__law_ranked ?c__law_ranked ?k__law_ranked ?a__law_folk_of ?l__law_folk_of ?c__law_folk_of ?k__law_folk_of ?a__law_told ?l__law_told ?c__law_told ?k__law_told ?a__law_bent ?l__law_bent ?c__law_bent ?k__law_bent ?a__law_refusals_held ?l__law_refusals_held ?c__law_refusals_held ?k__law_refusals_held ?a_law ?l_law ?c_law ?k_law ?z_isinstance ?z_int ?z_bool ?z_len ?z_list ?z_all ?z_set ?z_enumerate ?z_sorted ?z_range ?z_min ?z_max ?z_ValueError ?z_zip ?z_str ?g_MOST_NAMES ?g_MOST_FIGURES ?g_FIGURES ?g_MOST_HANDS ?ca_NoText ?cb_NoText ?ct_NoText ?cd_NoText ?ca_FolkError ?cb_FolkError ?ct_FolkError ?cd_FolkError ?ck_NoText ?cv_NoText ?cg_NoText ?ch_NoText ?cc_NoText ?cm_NoText ?cf_NoText ?cp_NoText_NoText ?ca_NoBack ?ct_NoBack ?cd_NoBack ?cp_NoText_NoBack ?ca_NoFall ?ct_NoFall ?cd_NoFall ?cp_NoText_NoFall ?ca_NoFit ?ct_NoFit ?cd_NoFit ?cp_NoText_NoFit ?ca_NoFixed ?ct_NoFixed ?cd_NoFixed ?cp_NoText_NoFixed ?ca_NoFolk ?ct_NoFolk ?cd_NoFolk ?cp_NoText_NoFolk ?ca_NoHand ?ct_NoHand ?cd_NoHand ?cp_NoText_NoHand ?ca_NoLine ?ct_NoLine ?cd_NoLine ?cp_NoText_NoLine ?ca_NoNames ?ct_NoNames ?cd_NoNames ?cp_NoText_NoNames ?ca_NoNumber ?ct_NoNumber ?cd_NoNumber ?cp_NoText_NoNumber ?ca_NoPaper ?ct_NoPaper ?cd_NoPaper ?cp_NoText_NoPaper ?ca_NoRanking ?ct_NoRanking ?cd_NoRanking ?cp_NoText_NoRanking ?ca_NoRow ?ct_NoRow ?cd_NoRow ?cp_NoText_NoRow ?ca_NoRule ?ct_NoRule ?cd_NoRule ?cp_NoText_NoRule ?ca_NoTitle ?ct_NoTitle ?cd_NoTitle ?cp_NoText_NoTitle ?ca_NoTops ?ct_NoTops ?cd_NoTops ?cp_NoText_NoTops ?ca_NoTree ?ct_NoTree ?cd_NoTree ?cp_NoText_NoTree ?ca_NoWeights ?ct_NoWeights ?cd_NoWeights ?cp_NoText_NoWeights ?ca_TooGreat ?ct_TooGreat ?cd_TooGreat ?cp_NoText_TooGreat ?co_NoText ?gk_NoText ?cs_NoText ?cn_NoText ?ci_NoText ?cy_NoText ?cl_NoText ?cc2_NoText ?ck2_NoText ?cr_F ?cg_F ?cf_F ?c0_s ?c0_t
    (case a_is_number => k_is)
    (case l_is_number => k_is)
    (case c_is_number => k_is)
    (case k_is_number => k_is)
    (case a_are_unlike_names => k_is)
    (case l_are_unlike_names => k_is)
    (case c_are_unlike_names => k_is)
    (case k_are_unlike_names => k_is)
    (case a_is_ranking => k_is)
    (case l_is_ranking => k_is)
    (case c_is_ranking => k_is)
    (case k_is_ranking => k_is)
    (case a_number_of => k_is)
    (case l_number_of => k_is)
    (case c_number_of => k_is)
    (case k_number_of => k_is)
    (case a_ranking_of => k_is)
    (case l_ranking_of => k_is)
    (case c_ranking_of => k_is)
    (case k_ranking_of => k_is)
    (case a_read_ranking => k_is)
    (case l_read_ranking => k_is)
    (case c_read_ranking => k_is)
    (case k_read_ranking => k_is)
    (case a_read_folk => k_is)
    (case l_read_folk => k_is)
    (case c_read_folk => k_is)
    (case k_read_folk => k_is)
    (case a__law_mix => k_is)
    (case l__law_mix => k_is)
    (case c__law_mix => k_is)
    (case k__law_mix => k_is)
    (case a__law_left => k_is)
    (case l__law_left => k_is)
    (case c__law_left => k_is)
    (case k__law_left => k_is)
    (case a__law_draw => k_is)
    (case l__law_draw => k_is)
    (case c__law_draw => k_is)
    (case k__law_draw => k_is)
    (case a__law_names => k_is)
    (case l__law_names => k_is)
    (case c__law_names => k_is)
    (case k__law_names => k_is)
    (case a__law_shuffled => k_is)
    (case l__law_shuffled => k_is)
    (case c__law_shuffled => k_is)
    (case k__law_shuffled => k_is)
    (case a__law_tree => k_is)
    (case l__law_tree => k_is)
    (case c__law_tree => k_is)
    (case k__law_tree => k_is)
    (case a__law_falling => k_is)
    (case l__law_falling => k_is)
    (case c__law_falling => k_is)
    (case k__law_falling => k_is)
    (case a__law_folk => k_is)
    (case l__law_folk => k_is)
    (case c__law_folk => k_is)
    (case k__law_folk => k_is)
    (case a__law_marks => k_is)
    (case l__law_marks => k_is)
    (case c__law_marks => k_is)
    (case k__law_marks => k_is)
    (case a__law_figured => k_is)
    (case l__law_figured => k_is)
    (case c__law_figured => k_is)
    (case k__law_figured => k_is)
    (case a__law_ranked => k_is)
    (case l__law_ranked => k_is)
    (case c__law_ranked => k_is)
    (case k__law_ranked => k_is)
    (case a__law_folk_of => k_is)
    (case l__law_folk_of => k_is)
    (case c__law_folk_of => k_is)
    (case k__law_folk_of => k_is)
    (case a__law_told => k_is)
    (case l__law_told => k_is)
    (case c__law_told => k_is)
    (case k__law_told => k_is)
    (case a__law_bent => k_is)
    (case l__law_bent => k_is)
    (case c__law_bent => k_is)
    (case k__law_bent => k_is)
    (case a__law_refusals_held => k_is)
    (case l__law_refusals_held => k_is)
    (case c__law_refusals_held => k_is)
    (case k__law_refusals_held => k_is)
    (case a_law => k_is)
    (case l_law => k_is)
    (case c_law => k_is)
    (case k_law => k_is)
    (case z_isinstance => k_is)
    (case z_int => k_is)
    (case z_bool => k_is)
    (case z_len => k_is)
    (case z_list => k_is)
    (case z_all => k_is)
    (case z_set => k_is)
    (case z_enumerate => k_is)
    (case z_sorted => k_is)
    (case z_range => k_is)
    (case z_min => k_is)
    (case z_max => k_is)
    (case z_ValueError => k_is)
    (case z_zip => k_is)
    (case z_str => k_is)
    (case g_MOST_NAMES => k_is)
    (case g_MOST_FIGURES => k_is)
    (case g_FIGURES => k_is)
    (case g_MOST_HANDS => k_is)
    (case ca_NoText => k_is)
    (case cb_NoText => k_is)
    (case ct_NoText => k_is)
    (case cd_NoText => k_is)
    (case ca_FolkError => k_is)
    (case cb_FolkError => k_is)
    (case ct_FolkError => k_is)
    (case cd_FolkError => k_is)
    (case ck_NoText => k_is)
    (case cv_NoText => k_is)
    (case cg_NoText => k_is)
    (case ch_NoText => k_is)
    (case cc_NoText => k_is)
    (case cm_NoText => k_is)
    (case cf_NoText => k_is)
    (case cp_NoText_NoText => k_is)
    (case ca_NoBack => k_is)
    (case ct_NoBack => k_is)
    (case cd_NoBack => k_is)
    (case cp_NoText_NoBack => k_is)
    (case ca_NoFall => k_is)
    (case ct_NoFall => k_is)
    (case cd_NoFall => k_is)
    (case cp_NoText_NoFall => k_is)
    (case ca_NoFit => k_is)
    (case ct_NoFit => k_is)
    (case cd_NoFit => k_is)
    (case cp_NoText_NoFit => k_is)
    (case ca_NoFixed => k_is)
    (case ct_NoFixed => k_is)
    (case cd_NoFixed => k_is)
    (case cp_NoText_NoFixed => k_is)
    (case ca_NoFolk => k_is)
    (case ct_NoFolk => k_is)
    (case cd_NoFolk => k_is)
    (case cp_NoText_NoFolk => k_is)
    (case ca_NoHand => k_is)
    (case ct_NoHand => k_is)
    (case cd_NoHand => k_is)
    (case cp_NoText_NoHand => k_is)
    (case ca_NoLine => k_is)
    (case ct_NoLine => k_is)
    (case cd_NoLine => k_is)
    (case cp_NoText_NoLine => k_is)
    (case ca_NoNames => k_is)
    (case ct_NoNames => k_is)
    (case cd_NoNames => k_is)
    (case cp_NoText_NoNames => k_is)
    (case ca_NoNumber => k_is)
    (case ct_NoNumber => k_is)
    (case cd_NoNumber => k_is)
    (case cp_NoText_NoNumber => k_is)
    (case ca_NoPaper => k_is)
    (case ct_NoPaper => k_is)
    (case cd_NoPaper => k_is)
    (case cp_NoText_NoPaper => k_is)
    (case ca_NoRanking => k_is)
    (case ct_NoRanking => k_is)
    (case cd_NoRanking => k_is)
    (case cp_NoText_NoRanking => k_is)
    (case ca_NoRow => k_is)
    (case ct_NoRow => k_is)
    (case cd_NoRow => k_is)
    (case cp_NoText_NoRow => k_is)
    (case ca_NoRule => k_is)
    (case ct_NoRule => k_is)
    (case cd_NoRule => k_is)
    (case cp_NoText_NoRule => k_is)
    (case ca_NoTitle => k_is)
    (case ct_NoTitle => k_is)
    (case cd_NoTitle => k_is)
    (case cp_NoText_NoTitle => k_is)
    (case ca_NoTops => k_is)
    (case ct_NoTops => k_is)
    (case cd_NoTops => k_is)
    (case cp_NoText_NoTops => k_is)
    (case ca_NoTree => k_is)
    (case ct_NoTree => k_is)
    (case cd_NoTree => k_is)
    (case cp_NoText_NoTree => k_is)
    (case ca_NoWeights => k_is)
    (case ct_NoWeights => k_is)
    (case cd_NoWeights => k_is)
    (case cp_NoText_NoWeights => k_is)
    (case ca_TooGreat => k_is)
    (case ct_TooGreat => k_is)
    (case cd_TooGreat => k_is)
    (case cp_NoText_TooGreat => k_is)
    (case co_NoText => k_is)
    (case gk_NoText => rfl)
    (case cs_NoText => k_is)
    (case cn_NoText => k_is)
    (case ci_NoText => k_is)
    (case cy_NoText => k_is)
    (case cl_NoText => k_is)
    (case cc2_NoText => k_is)
    (case ck2_NoText => k_is)
    (case cr_F => k_is)
    (case cg_F => k_is)
    (case cf_F => k_is)
    (case c0_s => k_is)
    (case c0_t => k_is)
