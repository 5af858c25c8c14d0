import PyProof.Rows.All
import Wide.All
import OpenK.AllK
import Wide.FinOn
import HandS.ForMost
import HandS.ForSpec
import HandS.Evl
import HandS.Deep
import HandS.IsInst
import HandS.SortInts
import HandS.Style
import HandS.NoneIn
import HandS.Wide
import HandS.TupAny
import KE.DataEq
import HandS.Lambda
import KE.SortCalls
import HandS.Remove
import HandS.SetFor
import HandS.Strs
import HandS.Conv
import PyProof.StrLawsRepr
import HandS.ExcIs
import HandS.ExcOwn
import HandS.ExcValue
import HandS.Text
import HandS.TupSets
import HandS.HeadHook3
import HandS.ExcInit
import HandS.ClsMeth
import KE.KExcIs
import HandS.ExcField
import KE.GoesMore
import HandS.Iter
import HandS.Replace
import HandS.ReplaceList
import HandS.More
import KE.GoesEnum
import PySem.Challenge.RW_ontheline_k83_texts_of_no_paper
set_option Elab.async false
set_option linter.all false
set_option maxRecDepth 100000
set_option maxHeartbeats 4000000
/-! DL: a layer of values over the layer of heaps -/
noncomputable section
namespace DL
open PySem L2
open Evl (Ex)

/-! ### data -/
structure Exn where
  name : String
  arg : Option PyData
inductive OD where
  | dict (kvs : List (Key × PyData)) | dictT (kvs : List (List Key × PyData)) | exc (x : Exn) | set (S : Int → Bool) (n : Nat) | scr (ns : List Int) | excs (n : String) (is : List Int)
inductive R where
  | val (d : PyData) | new (ds : List PyData) | slot (i : Nat) | raw (v : V) | ob (o : OD)
inductive Sl where
  | no | val (d : PyData) | own (ds : List PyData) | raw (v : V) | ob (o : OD)
abbrev Pw := Option (Addr × Addr × List Int × Int)
structure DSt where
  d : List Sl
  w : Pw
inductive Res (α : Type) where
  | ok (a : α) (s : DSt) | err (x : Exn) (s : DSt) | stuck
inductive Flow where
  | next (s : DSt) | ret (r : R) (s : DSt) | brk (s : DSt) | cnt (s : DSt) | err (x : Exn) (s : DSt) | stuck
inductive FRes where
  | ok (r : R) (w : Pw) | err (x : Exn) (w : Pw) | stuck

abbrev M (α : Type) := DSt → Res α
def inB (j : Int) : Prop := -(2 ^ 62) ≤ j ∧ j < 2 ^ 62
instance (j : Int) : Decidable (inB j) := Classical.propDecidable _
def inW (j : Int) : Prop := -(2 ^ 63) ≤ j ∧ j < 2 ^ 63
instance (j : Int) : Decidable (inW j) := Classical.propDecidable _
def leS (n : Nat) : Prop := n ≤ sizeLine
instance (n : Nat) : Decidable (leS n) := Classical.propDecidable _
def ltS (n : Nat) : Prop := n < sizeLine
instance (n : Nat) : Decidable (ltS n) := Classical.propDecidable _
def lgM (a b : Int) : Prop := a.natAbs.log2 + b.natAbs.log2 < 1000000
instance (a b : Int) : Decidable (lgM a b) := Classical.propDecidable _
def lgD (a : Int) : Prop := a.natAbs.log2 < 9000
instance (a : Int) : Decidable (lgD a) := Classical.propDecidable _
def lgP (a : Int) : Prop := a.natAbs.log2 < 4000
instance (a : Int) : Decidable (lgP a) := Classical.propDecidable _
def leP (a : Int) : Prop := a ≤ 30000
instance (a : Int) : Decidable (leP a) := Classical.propDecidable _
def Res.bind {α β : Type} (r : Res α) (g : α → M β) : Res β := match r with
  | .ok a s => g a s
  | .err x s => .err x s
  | .stuck => .stuck
def bnd {α β : Type} (f : M α) (g : α → M β) : M β := fun s => (f s).bind g
def ret {α : Type} (a : α) : M α := fun s => .ok a s
def stk {α : Type} : M α := fun _ => .stuck
@[simp] theorem bnd_app {α β : Type} (f : M α) (g : α → M β) (s : DSt) : bnd f g s = (f s).bind g := rfl
@[simp] theorem bind_ok {α β : Type} (a : α) (s : DSt) (g : α → M β) : (Res.ok a s).bind g = g a s := rfl
@[simp] theorem bind_err {α β : Type} (x : Exn) (s : DSt) (g : α → M β) : (Res.err x s : Res α).bind g = .err x s := rfl
@[simp] theorem bind_stuck {α β : Type} (g : α → M β) : (Res.stuck : Res α).bind g = .stuck := rfl
@[simp] theorem ret_app {α : Type} (a : α) (s : DSt) : ret a s = .ok a s := rfl
@[simp] theorem stk_app {α : Type} (s : DSt) : (stk s : Res α) = .stuck := rfl

/-! ### data as it stands in a heap -/
def KT (K : PySem.W.Frag) (a : Addr) (xs : List V) : Prop := ∃ (o : Obj) (its : Array Value) (n : Nat), K.lookup a = some o ∧ o.cls = .type "tuple" ∧ o.data = .seq its n ∧ its.size ≤ sizeLine ∧ Vals xs its.toList
theorem KT.sq {K : PySem.W.Frag} {H : Hp} {a : Addr} {xs : List V} (h : KT K a xs) : SqT K H a xs := .inr h
mutual
inductive Rp (K : PySem.W.Frag) (H : Hp) : V → PyData → Prop
  | non : Rp K H .non .none
  | bl (b : Bool) : Rp K H (.bl b) (.bool b)
  | int (i : Int) : Rp K H (.int i) (.int i)
  | str (x : Str) : Rp K H (.str x) (.str x)
  | lst {a : Addr} {xs : List V} {ds : List PyData} : H a = some (.lst xs) → RpAll K H xs ds → Rp K H (.ref a) (.list ds)
  | tup {a : Addr} {xs : List V} {ds : List PyData} : H a = some (.tup xs) → RpAll K H xs ds → Rp K H (.ref a) (.tuple ds)
  | ktup {a : Addr} {xs : List V} {ds : List PyData} : KT K a xs → RpAll K H xs ds → Rp K H (.ref a) (.tuple ds)
inductive RpAll (K : PySem.W.Frag) (H : Hp) : List V → List PyData → Prop
  | nil : RpAll K H [] []
  | cons {v : V} {vs : List V} {d : PyData} {ds : List PyData} : Rp K H v d → RpAll K H vs ds → RpAll K H (v :: vs) (d :: ds)
end
mutual
theorem rp_dp {K : PySem.W.Frag} {H : Hp} : ∀ (d : PyData) (v : V), Rp K H v d → Dp K H v d
  | .none, _, h => by cases h; exact .non
  | .bool b, _, h => by cases h; exact .bl b
  | .int i, _, h => by cases h; exact .int i
  | .str x, _, h => by cases h; exact .str x
  | .list ds, _, h => by
    cases h with
    | lst hs ha => exact .lst (.of hs) (rps_dps ds _ ha)
  | .tuple ds, _, h => by
    cases h with
    | tup hs ha => exact .tup (.of hs) (rps_dps ds _ ha)
    | ktup hs ha => exact .tup hs.sq (rps_dps ds _ ha)
  | .dict _, _, h => by cases h
theorem rps_dps {K : PySem.W.Frag} {H : Hp} : ∀ (ds : List PyData) (vs : List V), RpAll K H vs ds → DpAll K H vs ds
  | [], _, h => by cases h; exact .nil
  | d :: ds, _, h => by
    cases h with
    | cons h1 h2 => exact .cons (rp_dp d _ h1) (rps_dps ds _ h2)
end
mutual
theorem rp_plain {K : PySem.W.Frag} {H : Hp} : ∀ (d : PyData) (v : V), Rp K H v d → d.plain = true
  | .none, _, _ => rfl
  | .bool b, _, _ => rfl
  | .int i, _, _ => rfl
  | .str x, _, _ => rfl
  | .list ds, _, h => by
    cases h with
    | lst hs ha => simp only [PyData.plain]; exact rps_plain ds _ ha
  | .tuple ds, _, h => by
    cases h with
    | tup hs ha => simp only [PyData.plain]; exact rps_plain ds _ ha
    | ktup hs ha => simp only [PyData.plain]; exact rps_plain ds _ ha
  | .dict _, _, h => by cases h
theorem rps_plain {K : PySem.W.Frag} {H : Hp} : ∀ (ds : List PyData) (vs : List V), RpAll K H vs ds → PyData.plainAll ds = true
  | [], _, h => rfl
  | d :: ds, _, h => by
    cases h with
    | cons h1 h2 => simp [PyData.plainAll, rp_plain d _ h1, rps_plain ds _ h2]
end
mutual
theorem dp_mono {K : PySem.W.Frag} {H H' : Hp} (e : Ex H H') : ∀ (d : PyData) (v : V), Rp K H v d → Rp K H' v d
  | .none, _, h => by cases h; exact .non
  | .bool b, _, h => by cases h; exact .bl b
  | .int i, _, h => by cases h; exact .int i
  | .str x, _, h => by cases h; exact .str x
  | .list ds, _, h => by
    cases h with
    | lst hs ha => exact .lst (e _ _ hs) (dps_mono e ds _ ha)
  | .tuple ds, _, h => by
    cases h with
    | tup hs ha => exact .tup (e _ _ hs) (dps_mono e ds _ ha)
    | ktup hs ha => exact .ktup hs (dps_mono e ds _ ha)
  | .dict _, _, h => by cases h
theorem dps_mono {K : PySem.W.Frag} {H H' : Hp} (e : Ex H H') : ∀ (ds : List PyData) (vs : List V), RpAll K H vs ds → RpAll K H' vs ds
  | [], _, h => by cases h; exact .nil
  | d :: ds, _, h => by
    cases h with
    | cons h1 h2 => exact .cons (dp_mono e d _ h1) (dps_mono e ds _ h2)
end
theorem dps_len {K : PySem.W.Frag} {H : Hp} : ∀ {ds : List PyData} {vs : List V}, RpAll K H vs ds → vs.length = ds.length
  | [], _, h => by cases h; rfl
  | d :: ds, _, h => by
    cases h with
    | cons h1 h2 => simp [dps_len h2]
theorem dps_get {K : PySem.W.Frag} {H : Hp} : ∀ {ds : List PyData} {vs : List V} {i : Nat} {v : V}, RpAll K H vs ds → vs[i]? = some v → ∃ d, ds[i]? = some d ∧ Rp K H v d
  | [], _, i, v, h, e => by cases h; simp at e
  | d :: ds, _, 0, v, h, e => by
    cases h with
    | cons h1 h2 => simp at e; subst e; exact ⟨d, rfl, h1⟩
  | d :: ds, _, i + 1, v, h, e => by
    cases h with
    | cons h1 h2 => simpa using dps_get (i := i) h2 (by simpa using e)
theorem dps_app {K : PySem.W.Frag} {H : Hp} : ∀ {ds es : List PyData} {vs us : List V}, RpAll K H vs ds → RpAll K H us es → RpAll K H (vs ++ us) (ds ++ es)
  | [], _, _, _, h, h' => by cases h; exact h'
  | d :: ds, _, _, _, h, h' => by
    cases h with
    | cons h1 h2 => exact .cons h1 (dps_app h2 h')
theorem dps_take {K : PySem.W.Frag} {H : Hp} : ∀ {ds : List PyData} {vs : List V} (n : Nat), RpAll K H vs ds → RpAll K H (vs.take n) (ds.take n)
  | _, _, 0, _ => by simp; exact .nil
  | [], _, n + 1, h => by cases h; exact .nil
  | d :: ds, _, n + 1, h => by
    cases h with
    | cons h1 h2 => exact .cons h1 (dps_take n h2)
theorem dps_drop {K : PySem.W.Frag} {H : Hp} : ∀ {ds : List PyData} {vs : List V} (n : Nat), RpAll K H vs ds → RpAll K H (vs.drop n) (ds.drop n)
  | _, _, 0, h => by simpa using h
  | [], _, n + 1, h => by cases h; exact .nil
  | d :: ds, _, n + 1, h => by
    cases h with
    | cons h1 h2 => exact dps_drop n h2
/-! ### other things -/
def clOf (K : PySem.W.Frag) (n : String) : Addr := match PySem.W.nsIn K mainGlobals (Str.ofString n) with
  | some (some (.ref a)) => a
  | _ => 0
theorem clOf_of {K : PySem.W.Frag} {n : String} {a : Addr} (h : PySem.W.nsIn K mainGlobals (Str.ofString n) = some (some (.ref a))) : clOf K n = a := by
  unfold clOf
  rw [h]
def fieldOf (n : String) : Str := if n = "NoFall" then "hand" else "at"
def ExA (K : PySem.W.Frag) (H : Hp) (n : String) (d : Option Addr) : Option PyData → Prop
  | none => d = none
  | some e => ∃ dd v, d = some dd ∧ H dd = some (.xd [(fieldOf n, v)]) ∧ Rp K H v e
def excO (a : Addr) (cls : Value) (d : Option Addr) : HO := .ext fun h => ∃ o, h.get? a = some o ∧ Zc cls d o ∧ ∃ vs, o.data = .fields vs
inductive KRp {κ : Type} (K : PySem.W.Frag) (H : Hp) : List (κ × V) → List (κ × PyData) → Prop
  | nil : KRp K H [] []
  | cons {k : κ} {v : V} {d : PyData} {xs : List (κ × V)} {ys : List (κ × PyData)} : Rp K H v d → KRp K H xs ys → KRp K H ((k, v) :: xs) ((k, d) :: ys)
inductive ExAll (K : PySem.W.Frag) (H : Hp) (n : String) : List V → List Int → Prop
  | nil : ExAll K H n [] []
  | cons {b d : Addr} {i : Int} {vs : List V} {is : List Int} : H b = some (excO b (.ref (clOf K n)) (some d)) → H d = some (.xd [(fieldOf n, .int i)]) → ExAll K H n vs is → ExAll K H n (.ref b :: vs) (i :: is)
theorem exall_mono {K : PySem.W.Frag} {H H' : Hp} (e : Ex H H') {n : String} : ∀ {vs : List V} {is : List Int}, ExAll K H n vs is → ExAll K H' n vs is
  | _, _, .nil => .nil
  | _, _, .cons h1 h2 t => .cons (e _ _ h1) (e _ _ h2) (exall_mono e t)
def ObRel (K : PySem.W.Frag) (H : Hp) (v : V) : OD → Prop
  | .dict kvs => ∃ a vs, v = .ref a ∧ H a = some (.dK vs) ∧ KRp K H vs kvs
  | .dictT kvs => ∃ a vs, v = .ref a ∧ H a = some (.dT vs) ∧ KRp K H vs kvs
  | .exc x => ∃ a d, v = .ref a ∧ H a = some (excO a (.ref (clOf K x.name)) d) ∧ ExA K H x.name d x.arg
  | .set S n => ∃ a, v = .ref a ∧ H a = some (.set S n)
  | .scr ns => ∃ a, v = .ref a ∧ SqL K H a (ns.map V.int)
  | .excs n is => ∃ a vs, v = .ref a ∧ H a = some (.lst vs) ∧ ExAll K H n vs is
theorem krp_mono {κ : Type} {K : PySem.W.Frag} {H H' : Hp} (e : Ex H H') : ∀ {vs : List (κ × V)} {kvs : List (κ × PyData)}, KRp K H vs kvs → KRp K H' vs kvs
  | _, _, .nil => .nil
  | _, _, .cons h t => .cons (dp_mono e _ _ h) (krp_mono e t)
theorem exa_mono {K : PySem.W.Frag} {H H' : Hp} (e : Ex H H') {n : String} {d : Option Addr} : ∀ {o : Option PyData}, ExA K H n d o → ExA K H' n d o
  | none, h => h
  | some x, ⟨dd, v, h1, h2, h3⟩ => ⟨dd, v, h1, e _ _ h2, dp_mono e _ _ h3⟩
theorem ob_mono {K : PySem.W.Frag} {H H' : Hp} (e : Ex H H') {v : V} : ∀ {o : OD}, ObRel K H v o → ObRel K H' v o
  | .dict kvs, ⟨a, vs, h1, h2, h3⟩ => ⟨a, vs, h1, e _ _ h2, krp_mono e h3⟩
  | .dictT kvs, ⟨a, vs, h1, h2, h3⟩ => ⟨a, vs, h1, e _ _ h2, krp_mono e h3⟩
  | .exc x, ⟨a, d, h1, h2, h3⟩ => ⟨a, d, h1, e _ _ h2, exa_mono e h3⟩
  | .set S n, ⟨a, h1, h2⟩ => ⟨a, h1, e _ _ h2⟩
  | .scr ns, ⟨a, h1, h2⟩ => ⟨a, h1, Evl.ex_l e h2⟩
  | .excs n is, ⟨a, vs, h1, h2, h3⟩ => ⟨a, vs, h1, e _ _ h2, exall_mono e h3⟩

/-! ### the state -/
@[irreducible] def tabA : List (Addr × Str) := []
def TOwn (a : Addr) : Prop := ∃ q, (a, q) ∈ tabA
def POwn0 (w : Pw) (a : Addr) : Prop := match w with
  | none => False
  | some (pa, ca, _, _) => a = pa ∨ a = ca
def POwn (w : Pw) (a : Addr) : Prop := POwn0 w a ∨ TOwn a
def OwnAt (s : DSt) (σ : L2.St) (i : Nat) (a : Addr) : Prop := (∃ ds, s.d[i]? = some (.own ds)) ∧ σ[i]? = some (some (.ref a))
def Own (s : DSt) (σ : L2.St) (a : Addr) : Prop := (∃ i, OwnAt s σ i a) ∨ POwn s.w a
def pwA (pa ca : Addr) (cells : List Int) (t : Int) : List V := if pa = ca then cells.map .int else [.ref ca, .int t]
def PwOk0 (G : Hp) (w : Pw) (H : Hp) : Prop := match w with
  | none => True
  | some (pa, ca, cells, t) => True ∧ H pa = some (.lst (pwA pa ca cells t)) ∧ H ca = some (.lst (cells.map .int)) ∧ G pa = none ∧ G ca = none
def TabOk (G H : Hp) : Prop := ∀ p ∈ tabA, LamX.TabS H p.1 p.2 ∧ G p.1 = none
def PwOk (G : Hp) (w : Pw) (H : Hp) : Prop := PwOk0 G w H ∧ TabOk G H
theorem TabOk.to {G G' H H' : Hp} (t : TabOk G H) (k : ∀ a o, H a = some o → TOwn a → H' a = some o) (x : ∀ a φ, H a = some (.ext φ) → H' a = some (.ext φ)) (g : ∀ a, TOwn a → G' a = none) : TabOk G' H' := fun p hp => by
  obtain ⟨⟨ps, h1, h2, h3⟩, _⟩ := t p hp
  refine ⟨⟨ps, k _ _ h1 ⟨p.2, hp⟩, h2, fun pos cv hc => ?_⟩, g _ ⟨p.2, hp⟩⟩
  obtain ⟨c, e1, e2⟩ := h3 pos cv hc
  exact ⟨c, e1, x _ _ e2⟩
theorem TabOk.g {G H : Hp} (t : TabOk G H) {a : Addr} (z : TOwn a) : G a = none := by
  obtain ⟨q, hq⟩ := z
  exact (t _ hq).2
theorem TabOk.h {G H : Hp} (t : TabOk G H) {a : Addr} (z : TOwn a) : ∃ ps, H a = some (.tbl ps) := by
  obtain ⟨q, hq⟩ := z
  obtain ⟨⟨ps, h, _⟩, _⟩ := t _ hq
  exact ⟨ps, h⟩
theorem G_pown {G H : Hp} {w : Pw} (p : PwOk G w H) {a : Addr} (h : POwn w a) : G a = none := by
  rcases h with h | h
  · replace p := p.1
    unfold PwOk0 at p
    unfold POwn0 at h
    split at h
    · exact h.elim
    · rcases h with rfl | rfl
      · exact p.2.2.2.1
      · exact p.2.2.2.2
  · exact p.2.g h
theorem H_pown {G H : Hp} {w : Pw} (p : PwOk G w H) {a : Addr} (h : POwn w a) : (∃ xs, H a = some (.lst xs)) ∨ ∃ ps, H a = some (.tbl ps) := by
  rcases h with h | h
  · left
    replace p := p.1
    unfold PwOk0 at p
    unfold POwn0 at h
    split at h
    · exact h.elim
    · rcases h with rfl | rfl
      · exact ⟨_, p.2.1⟩
      · exact ⟨_, p.2.2.1⟩
  · exact .inr (p.2.h h)
theorem pwok_to {w : Pw} {G G' H H' : Hp} (q : PwOk G w H) (k : ∀ a o, H a = some o → POwn w a → H' a = some o) (x : ∀ a φ, H a = some (.ext φ) → H' a = some (.ext φ)) (g : ∀ a, POwn w a → G' a = none) : PwOk G' w H' := by
  refine ⟨?_, q.2.to (fun a o h z => k a o h (.inr z)) x fun a z => g a (.inr z)⟩
  have q := q.1
  unfold PwOk0 at q ⊢
  split
  · trivial
  · rename_i pa ca cells t
    exact ⟨q.1, k _ _ q.2.1 (.inl (.inl rfl)), k _ _ q.2.2.1 (.inl (.inr rfl)), g _ (.inl (.inl rfl)), g _ (.inl (.inr rfl))⟩
def SlOk (K : PySem.W.Frag) (G H : Hp) (x : Option V) : Sl → Prop
  | .no => True
  | .val d => ∃ v, x = some v ∧ Rp K G v d
  | .raw v => x = some v
  | .ob o => ∃ v, x = some v ∧ ObRel K G v o
  | .own ds => ∃ a xs, x = some (.ref a) ∧ H a = some (.lst xs) ∧ RpAll K G xs ds
structure SA (K : PySem.W.Frag) (G : Hp) (s : DSt) (σ : L2.St) (H : Hp) : Prop where
  len : s.d.length = σ.length
  gh : Ex G H
  slot : ∀ (i : Nat) (sl : Sl), s.d[i]? = some sl → SlOk K G H (σ[i]?.join) sl
  inj : ∀ i j a, OwnAt s σ i a → OwnAt s σ j a → i = j
  ownG : ∀ i a, OwnAt s σ i a → G a = none
  pw : PwOk G s.w H
  pne : ∀ i a, OwnAt s σ i a → ¬ POwn s.w a
structure Stp (G : Hp) (s : DSt) (σ : L2.St) (H : Hp) (G' : Hp) (s' : DSt) (σ' : L2.St) (H' : Hp) : Prop where
  ex : Ex G G'
  keep : ∀ a o, H a = some o → ¬ Own s σ a → H' a = some o ∧ G' a = G a
  own : ∀ a, Own s' σ' a → Own s σ a ∨ H a = none
  dom : ∀ a, H a ≠ none → H' a ≠ none
  pw : ∀ a, POwn s.w a → POwn s'.w a
theorem Stp.refl {G H : Hp} {s : DSt} {σ : L2.St} : Stp G s σ H G s σ H := ⟨Ex.refl G, fun _ _ h _ => ⟨h, rfl⟩, fun _ h => .inl h, fun _ h => h, fun _ h => h⟩
theorem Stp.trans {G G1 G2 H H1 H2 : Hp} {s s1 s2 : DSt} {σ σ1 σ2 : L2.St} (a : Stp G s σ H G1 s1 σ1 H1) (b : Stp G1 s1 σ1 H1 G2 s2 σ2 H2) : Stp G s σ H G2 s2 σ2 H2 where
  ex := a.ex.trans b.ex
  keep := fun x o h n => by
    obtain ⟨h1, g1⟩ := a.keep x o h n
    have n1 : ¬ Own s1 σ1 x := fun z => (a.own x z).elim n fun e => by rw [h] at e; cases e
    obtain ⟨h2, g2⟩ := b.keep x o h1 n1
    exact ⟨h2, g2.trans g1⟩
  own := fun x z => (b.own x z).elim (a.own x) fun e => .inr (Classical.byContradiction fun q => a.dom x q e)
  dom := fun x h => b.dom x (a.dom x h)
  pw := fun x h => b.pw x (a.pw x h)
def RRel (K : PySem.W.Frag) (H0 G : Hp) (s : DSt) (σ : L2.St) (H : Hp) (v : V) : R → Prop
  | .val d => Rp K G v d
  | .raw u => v = u
  | .ob o => ObRel K G v o
  | .slot i => σ[i]? = some (some v)
  | .new ds => ∃ a xs, v = .ref a ∧ H a = some (.lst xs) ∧ RpAll K G xs ds ∧ G a = none ∧ H0 a = none ∧ ¬ Own s σ a
theorem RRel.mono {K : PySem.W.Frag} {H0 G H G' H' : Hp} {s s' : DSt} {σ : L2.St} {v : V} {r : R} (h : RRel K H0 G s σ H v r) (t : Stp G s σ H G' s' σ H') : RRel K H0 G' s' σ H' v r := by
  cases r with
  | val d => exact dp_mono t.ex d v h
  | raw u => exact h
  | ob o => exact ob_mono t.ex h
  | slot i => exact h
  | new ds =>
    obtain ⟨a, xs, e, ha, hd, hg, h0, hn⟩ := h
    obtain ⟨h1, g1⟩ := t.keep a _ ha hn
    refine ⟨a, xs, e, h1, dps_mono t.ex _ _ hd, g1.trans hg, h0, fun z => (t.own a z).elim hn fun q => by rw [ha] at q; cases q⟩
theorem RRel.less {K : PySem.W.Frag} {H0 H1 G H : Hp} {s : DSt} {σ : L2.St} {v : V} {r : R} (h : RRel K H1 G s σ H v r) (d : ∀ a, H0 a ≠ none → H1 a ≠ none) : RRel K H0 G s σ H v r := by
  cases r with
  | val d => exact h
  | raw u => exact h
  | ob o => exact h
  | slot i => exact h
  | new ds =>
    obtain ⟨a, xs, e, ha, hd, hg, h0, hn⟩ := h
    exact ⟨a, xs, e, ha, hd, hg, Classical.byContradiction fun q => d a q h0, hn⟩
def look (r : R) (s : DSt) : Option PyData := match r with
  | .val d => some d
  | .raw _ => none
  | .ob _ => none
  | .new ds => some (.list ds)
  | .slot i => match s.d[i]? with
    | some (.own ds) => some (.list ds)
    | some (.val d) => some d
    | _ => none
theorem look_ok {K : PySem.W.Frag} {H0 G H : Hp} {s : DSt} {σ : L2.St} {v : V} {r : R} {d : PyData} (S : SA K G s σ H) (h : RRel K H0 G s σ H v r) (e : look r s = some d) : Rp K H v d := by
  cases r with
  | val d' => cases e; exact dp_mono S.gh _ _ h
  | raw u => cases e
  | ob o => cases e
  | new ds =>
    cases e
    obtain ⟨a, xs, rfl, ha, hd, _⟩ := h
    exact .lst ha (dps_mono S.gh _ _ hd)
  | slot i =>
    simp only [look] at e
    have h' : σ[i]? = some (some v) := h
    split at e
    · rename_i ds q
      cases e
      obtain ⟨a, xs, e1, ha, hd⟩ := S.slot i _ q
      rw [h'] at e1
      cases e1
      exact .lst ha (dps_mono S.gh _ _ hd)
    · rename_i d' q
      cases e
      obtain ⟨u, e1, hd⟩ := S.slot i _ q
      rw [h'] at e1
      cases e1
      exact dp_mono S.gh _ _ hd
    · cases e
end DL

/-! DL2: the judgements -/
noncomputable section
namespace DL
open PySem L2
open Evl (Ex)

def XRel (K : PySem.W.Frag) (cl : String → Addr) (x : Exn) (cls : Value) (d : Option Addr) (H : Hp) : Prop :=
  cls = .ref (cl x.name) ∧ ExA K H x.name d x.arg
section
variable (K : PySem.W.Frag) (cl : String → Addr) (W : WX)
def Out {α : Type} (G : Hp) (s : DSt) (σ : L2.St) (H : Hp) (r : Res α) (k : α → Hp → DSt → Hp → Prop) : Prop := match r with
  | .ok a s' => ∀ G' H', Stp G s σ H G' s' σ H' → SA K G' s' σ H' → k a G' s' H'
  | .err x s' => ∀ cls d G' H', Stp G s σ H G' s' σ H' → SA K G' s' σ H' → XRel K cl x cls d G' → W cls d σ H'
  | .stuck => False
def tD (f : M R) : TE := fun σ H Q => ∃ G s, SA K G s σ H ∧ Out K cl W G s σ H (f s) fun r G' s' H' => ∀ v, RRel K H G' s' σ H' v r → Q v H'
def tT (f : M Bool) : TT := fun σ H Q => ∃ G s, SA K G s σ H ∧ Out K cl W G s σ H (f s) fun b _ _ H' => Q b H'
def RRels (H0 G : Hp) (s : DSt) (σ : L2.St) (H : Hp) : List V → List R → Prop := Paired fun v r => RRel K H0 G s σ H v r
def tA (f : M (List R)) : TA := fun σ H Q => ∃ G s, SA K G s σ H ∧ Out K cl W G s σ H (f s) fun rs G' s' H' => ∀ vs, RRels K H G' s' σ H' vs rs → Q vs H'
def FOut (G : Hp) (s : DSt) (σ : L2.St) (H : Hp) (fl : Flow) (D : Ends) : Prop := match fl with
  | .next s' => ∀ G' σ' H', Stp G s σ H G' s' σ' H' → SA K G' s' σ' H' → D.nx σ' H'
  | .brk s' => ∀ G' σ' H', Stp G s σ H G' s' σ' H' → SA K G' s' σ' H' → D.bk σ' H'
  | .cnt s' => ∀ G' σ' H', Stp G s σ H G' s' σ' H' → SA K G' s' σ' H' → D.ct σ' H'
  | .ret r s' => ∀ v G' σ' H', Stp G s σ H G' s' σ' H' → SA K G' s' σ' H' → RRel K H G' s' σ' H' v r → D.rt v H'
  | .err x s' => ∀ cls d G' σ' H', Stp G s σ H G' s' σ' H' → SA K G' s' σ' H' → XRel K cl x cls d G' → W cls d σ' H'
  | .stuck => False
def tS (f : DSt → Flow) : TS := fun D σ H => ∃ G s, SA K G s σ H ∧ FOut K cl W G s σ H (f s) D
end
section
variable {K : PySem.W.Frag} {cl : String → Addr} {W : WX} {G H : Hp} {s : DSt} {σ : L2.St}
theorem out_mono {α : Type} {r : Res α} {k k' : α → Hp → DSt → Hp → Prop} (h : Out K cl W G s σ H r k) (i : ∀ a G' s' H', Stp G s σ H G' s' σ H' → SA K G' s' σ H' → k a G' s' H' → k' a G' s' H') : Out K cl W G s σ H r k' := by
  cases r with
  | ok a s' => exact fun G' H' st sa => i a G' s' H' st sa (h G' H' st sa)
  | err x s' => exact h
  | stuck => exact h
theorem out_bind {α β : Type} {r : Res α} {g : α → M β} {k : β → Hp → DSt → Hp → Prop} (h : Out K cl W G s σ H (r.bind g) k) :
    Out K cl W G s σ H r fun a G1 s1 H1 => Out K cl W G1 s1 σ H1 (g a s1) fun b G2 s2 H2 => k b G2 s2 H2 := by
  cases r with
  | ok a s' =>
    intro G1 H1 st sa
    have h : Out K cl W G s σ H (g a s') k := h
    cases e : g a s' with
    | ok b s2 => rw [e] at h; exact fun G2 H2 st2 sa2 => h G2 H2 (st.trans st2) sa2
    | err x s2 => rw [e] at h; exact fun c d G2 H2 st2 sa2 xr => h c d G2 H2 (st.trans st2) sa2 xr
    | stuck => rw [e] at h; exact h
  | err x s' => exact h
  | stuck => exact h
theorem out_less {f : Res R} {H0 : Hp} {Q : VK} (dm : ∀ a, H0 a ≠ none → H a ≠ none) (h : Out K cl W G s σ H f fun r G' s' H' => ∀ v, RRel K H0 G' s' σ H' v r → Q v H') :
    Out K cl W G s σ H f fun r G' s' H' => ∀ v, RRel K H G' s' σ H' v r → Q v H' := out_mono h fun _ _ _ _ _ _ k v q => k v (q.less dm)
end
section
variable {X : Cx} {cl : String → Addr} {W : WX}
theorem pe_imp {e : Expr} {t t' : TE} (h : PE X e t) (i : ∀ σ H Q, t' σ H Q → t σ H Q) : PE X e t' := ⟨fun pins s σ H Q I q => h.run pins s σ H Q I (i σ H Q q)⟩
theorem pt_imp {e : Expr} {t t' : TT} (h : PT X e t) (i : ∀ σ H Q, t' σ H Q → t σ H Q) : PT X e t' := ⟨fun pins s σ H Q I q => h.run pins s σ H Q I (i σ H Q q)⟩
theorem pw_imp {e : Expr} {t t' : TT} (h : PW X e t) (i : ∀ σ H Q, t' σ H Q → t σ H Q) : PW X e t' := ⟨fun wh pins s σ H Q I q => h.run wh pins s σ H Q I (i σ H Q q)⟩
theorem pa_imp {es : List Expr} {t t' : TA} (h : PA X es t) (i : ∀ σ H Q, t' σ H Q → t σ H Q) : PA X es t' := ⟨fun pos pins s σ H Q I q => h.run pos pins s σ H Q I (i σ H Q q)⟩
theorem ps_imp {st : Stmt} {t t' : TS} (h : PS X st t) (i : ∀ D σ H, t' D σ H → t D σ H) : PS X st t' := ⟨fun pins s σ H D I q => h.run pins s σ H D I (i D σ H q)⟩
theorem pss_imp {st : List Stmt} {t t' : TS} (h : PSs X st t) (i : ∀ D σ H, t' D σ H → t D σ H) : PSs X st t' := ⟨fun pins s σ H D I q => h.run pins s σ H D I (i D σ H q)⟩
abbrev DE (X : Cx) (cl : String → Addr) (W : WX) (e : Expr) (f : M R) : Prop := PE X e (tD X.K cl W f)
abbrev DT (X : Cx) (cl : String → Addr) (W : WX) (e : Expr) (f : M Bool) : Prop := PT X e (tT X.K cl W f)
abbrev DW (X : Cx) (cl : String → Addr) (W : WX) (e : Expr) (f : M Bool) : Prop := PW X e (tT X.K cl W f)
abbrev DA (X : Cx) (cl : String → Addr) (W : WX) (es : List Expr) (f : M (List R)) : Prop := PA X es (tA X.K cl W f)
abbrev DS (X : Cx) (cl : String → Addr) (W : WX) (st : Stmt) (f : DSt → Flow) : Prop := PS X st (tS X.K cl W f)
abbrev DSs (X : Cx) (cl : String → Addr) (W : WX) (st : List Stmt) (f : DSt → Flow) : Prop := PSs X st (tS X.K cl W f)

/-! ### names, constants -/
def fVar (i : Nat) : M R := fun s => match s.d[i]? with
  | some (.val d) => .ok (.val d) s
  | some (.raw v) => .ok (.raw v) s
  | some (.ob o) => .ok (.ob o) s
  | some (.own _) => .ok (.slot i) s
  | _ => .stuck
theorem d_var (i : Nat) {x : Str} {pos : Pos} (hN : X.N[i]? = some x := by rfl) (hv : Vis X.env.scope x := by first | exact Or.inl rfl | exact Or.inr (Or.inl rfl) | exact Or.inr (Or.inr rfl)) (hd : (x == ("__debug__" : Str)) = false := by decide)
    (hcd : (x == ("__classdict__" : Str)) = false := by decide) : DE X cl W (.Name x pos) (fVar i) := by
  refine pe_imp (pe_var hN hv hd hcd) fun σ H Q ⟨G, s, S, h⟩ => ?_
  unfold fVar at h
  split at h
  · rename_i d q
    obtain ⟨v, e, hd⟩ := S.slot i _ q
    have e' : σ[i]? = some (some v) := by
      cases z : σ[i]? with
      | none => rw [z] at e; cases e
      | some o => rw [z] at e; simp at e; rw [e]
    exact ⟨v, e', h G H Stp.refl S v hd⟩
  · rename_i u q
    have e : σ[i]?.join = some u := S.slot i _ q
    have e' : σ[i]? = some (some u) := by
      cases z : σ[i]? with
      | none => rw [z] at e; cases e
      | some o => rw [z] at e; simp at e; rw [e]
    exact ⟨u, e', h G H Stp.refl S u rfl⟩
  · rename_i o q
    obtain ⟨v, e, hd⟩ := S.slot i _ q
    have e' : σ[i]? = some (some v) := by
      cases z : σ[i]? with
      | none => rw [z] at e; cases e
      | some o => rw [z] at e; simp at e; rw [e]
    exact ⟨v, e', h G H Stp.refl S v hd⟩
  · rename_i ds q
    obtain ⟨a, xs, e, ha, hd⟩ := S.slot i _ q
    have e' : σ[i]? = some (some (.ref a)) := by
      cases z : σ[i]? with
      | none => rw [z] at e; cases e
      | some o => rw [z] at e; simp at e; rw [e]
    exact ⟨_, e', h G H Stp.refl S _ e'⟩
  · exact h.elim
def fC (d : PyData) : M R := ret (.val d)
theorem d_c {e : Expr} {d : PyData} {v : V} (hd : ∀ G, Rp X.K G v d) (h : PE X e (tC v)) : DE X cl W e (fC d) :=
  pe_imp h fun σ H Q ⟨G, s, S, q⟩ => q G H Stp.refl S v (hd G)
theorem d_int {i j pos} : DE X cl W (.Constant (.int i) j pos) (fC (.int i)) := d_c (fun _ => .int i) pe_int
theorem d_bl {b j pos} : DE X cl W (.Constant (.bool b) j pos) (fC (.bool b)) := d_c (fun _ => .bl b) pe_bl
theorem d_non {j pos} : DE X cl W (.Constant .none j pos) (fC .none) := d_c (fun _ => .non) pe_non
theorem d_str {x j pos} : DE X cl W (.Constant (.str x) j pos) (fC (.str x)) := d_c (fun _ => .str x) pe_str
theorem d_globI {x : Str} {i : Int} {t : Tok} {pos : Pos} (hg : Gl X x) (hm : X.mg x = some (.int i t)) (hd : (x == ("__debug__" : Str)) = false := by decide) : DE X cl W (.Name x pos) (fC (.int i)) := d_c (fun _ => .int i) (pe_glob (v := .int i) hg hm ⟨t, rfl⟩ hd)
theorem d_globS {x : Str} {i : Str} {t : Tok} {pos : Pos} (hg : Gl X x) (hm : X.mg x = some (.str i t)) (hd : (x == ("__debug__" : Str)) = false := by decide) : DE X cl W (.Name x pos) (fC (.str i)) := d_c (fun _ => .str i) (pe_glob (v := .str i) hg hm ⟨t, rfl⟩ hd)
def fRaw (v : V) : M R := ret (.raw v)
/-! ### operators -/
def OpS (K : PySem.W.Frag) (rl : R2) (o : R → R → M R) : Prop := ∀ (cl : String → Addr) (W : WX) (G : Hp) (s : DSt) (σ : L2.St) (H H0 : Hp) (v1 v2 : V) (r1 r2 : R) (Q : VK), SA K G s σ H → RRel K H0 G s σ H v1 r1 → RRel K H0 G s σ H v2 r2 →
  (Out K cl W G s σ H (o r1 r2 s) fun r G' s' H' => ∀ v, RRel K H G' s' σ H' v r → Q v H') → rl v1 v2 H Q
def fOp (o : R → R → M R) (f g : M R) : M R := bnd f fun x => bnd g fun y => o x y
theorem d_op2 {e : Expr} {a b : Expr} {f g : M R} {rl : R2} {o : R → R → M R} (h : ∀ {ta tb : TE}, PE X a ta → PE X b tb → PE X e (tOp rl ta tb)) (ho : OpS X.K rl o) (ha : DE X cl W a f) (hb : DE X cl W b g) : DE X cl W e (fOp o f g) := by
  refine pe_imp (h ha hb) fun σ H Q ⟨G, s, S, q⟩ => ?_
  refine ⟨G, s, S, out_mono (out_bind q) fun x G1 s1 H1 st1 S1 q1 v1 r1 => ⟨G1, s1, S1, ?_⟩⟩
  refine out_mono (out_bind q1) fun y G2 s2 H2 st2 S2 q2 v2 r2 => ?_
  refine ho cl W G2 s2 σ H2 H v1 v2 x y Q S2 (r1.mono st2) (r2.less st1.dom) (out_less (st1.trans st2).dom q2)
theorem OpR.or' {f : Value → Value → Sem Value} {r r' : R2} (h : OpR X f r) (h' : OpR X f r') : OpR X f (fun x y H Q => r x y H Q ∨ r' x y H Q) := by
  intro pins s σ H x y v u Q I rx ry q
  rcases q with q | q
  · exact h pins s σ H x y v u Q I rx ry q
  · exact h' pins s σ H x y v u Q I rx ry q
theorem SA.ownL {K : PySem.W.Frag} {G H : Hp} {s : DSt} {σ : L2.St} {i : Nat} {a : Addr} (S : SA K G s σ H) (z : OwnAt s σ i a) : ∃ xs, H a = some (.lst xs) := by
  obtain ⟨⟨es, e⟩, e2⟩ := z
  obtain ⟨b, xs, e3, ha, _⟩ := S.slot i _ e
  rw [e2] at e3
  cases e3
  exact ⟨xs, ha⟩
theorem SA.ownH {K : PySem.W.Frag} {G H : Hp} {s : DSt} {σ : L2.St} {a : Addr} (S : SA K G s σ H) (z : Own s σ a) : (∃ xs, H a = some (.lst xs)) ∨ ∃ ps, H a = some (.tbl ps) := by
  rcases z with ⟨i, z⟩ | z
  · exact .inl (S.ownL z)
  · exact H_pown S.pw z
theorem SA.ownS {K : PySem.W.Frag} {G H : Hp} {s : DSt} {σ : L2.St} {a : Addr} (S : SA K G s σ H) (z : Own s σ a) : ∃ o, H a = some o ∧ ∀ φ, o ≠ .ext φ := by
  rcases S.ownH z with ⟨xs, e⟩ | ⟨ps, e⟩
  · exact ⟨_, e, fun _ => nofun⟩
  · exact ⟨_, e, fun _ => nofun⟩
theorem new_list {K : PySem.W.Frag} {G H H0 : Hp} {s : DSt} {σ : L2.St} {p : Addr} {vs : List V} {ds : List PyData} (S : SA K G s σ H) (hp : H p = none) (hd : RpAll K G vs ds) (dm : ∀ a, H0 a ≠ none → H a ≠ none) :
    Stp G s σ H G s σ (upd H p (.lst vs)) ∧ SA K G s σ (upd H p (.lst vs)) ∧ RRel K H0 G s σ (upd H p (.lst vs)) (.ref p) (.new ds) := by
  have ne : ∀ a o, H a = some o → a ≠ p := fun a o h => ne_of_none h hp
  have up : ∀ a o, H a = some o → upd H p (.lst vs) a = some o := fun a o h => by rw [upd_ne (ne a o h)]; exact h
  have gp : G p = none := Evl.fresh_back S.gh hp
  refine ⟨⟨Ex.refl G, fun a o h _ => ⟨up a o h, rfl⟩, fun a z => .inl z, fun a h => ?_, fun _ h => h⟩, ⟨S.len, S.gh.trans fun a o h => up a o h, fun i sl h => ?_, S.inj, S.ownG, ?_, S.pne⟩, ⟨p, vs, rfl, upd_same, hd, gp, ?_, ?_⟩⟩
  · obtain ⟨o, e⟩ := Option.ne_none_iff_exists'.mp h
    rw [up a o e]; simp
  · have q := S.slot i sl h
    cases sl with
    | no => trivial
    | val d => exact q
    | raw v => exact q
    | ob o => exact q
    | own es => obtain ⟨a, xs, e, ha, hh⟩ := q; exact ⟨a, xs, e, up a _ ha, hh⟩
  · exact pwok_to S.pw (fun a o h _ => up a o h) (fun a φ h => up a _ h) fun a z => G_pown S.pw z
  · exact Classical.byContradiction fun q => dm p q hp
  · intro z
    obtain ⟨xs, e, _⟩ := S.ownS z
    rw [hp] at e; cases e
theorem new_known {K : PySem.W.Frag} {G H : Hp} {s : DSt} {σ : L2.St} {p : Addr} (o : HO) (S : SA K G s σ H) (hp : H p = none) :
    Stp G s σ H (upd G p o) s σ (upd H p o) ∧ SA K (upd G p o) s σ (upd H p o) := by
  have up : ∀ a u, H a = some u → upd H p o a = some u := fun a u h => by rw [upd_ne (ne_of_none h hp)]; exact h
  have gp : G p = none := Evl.fresh_back S.gh hp
  have ug : Ex G (upd G p o) := Ex.new gp
  have nown : ∀ a, Own s σ a → a ≠ p := by
    rintro a z rfl
    obtain ⟨xs, e, _⟩ := S.ownS z
    rw [hp] at e; cases e
  refine ⟨⟨ug, fun a u h _ => ⟨up a u h, by rw [upd_ne (ne_of_none h hp)]⟩, fun a z => .inl z, fun a h => ?_, fun _ h => h⟩, ⟨S.len, fun a u h => ?_, fun i sl h => ?_, S.inj, fun i a z => ?_, ?_, S.pne⟩⟩
  · obtain ⟨u, e⟩ := Option.ne_none_iff_exists'.mp h
    rw [up a u e]; simp
  · by_cases e : a = p
    · subst e; rw [upd_same] at h ⊢; exact h
    · rw [upd_ne e] at h ⊢; exact S.gh a u h
  · have q := S.slot i sl h
    cases sl with
    | no => trivial
    | val d => obtain ⟨v, e, hd⟩ := q; exact ⟨v, e, dp_mono ug _ _ hd⟩
    | raw v => exact q
    | ob o => obtain ⟨v, e, hd⟩ := q; exact ⟨v, e, ob_mono ug hd⟩
    | own es => obtain ⟨a, xs, e, ha, hh⟩ := q; exact ⟨a, xs, e, up a _ ha, dps_mono ug _ _ hh⟩
  · rw [upd_ne (nown a (.inl ⟨i, z⟩))]; exact S.ownG i a z
  · exact pwok_to S.pw (fun a o h _ => up a o h) (fun a φ h => up a _ h) fun a z => by rw [upd_ne (nown a (.inr z))]; exact G_pown S.pw z
end
end DL

/-! DL3: operators on data -/
noncomputable section
namespace DL
open PySem L2 PyProof.Rows
open Evl (Ex)

def Dq (K : PySem.W.Frag) (G H : Hp) (v : V) (d : PyData) : Prop := match d with
  | .list ds => ∃ a xs, v = .ref a ∧ H a = some (.lst xs) ∧ RpAll K G xs ds
  | d => Rp K G v d
theorem Dq.of {K : PySem.W.Frag} {G H : Hp} {v : V} : ∀ {d : PyData}, Ex G H → Rp K G v d → Dq K G H v d
  | .list ds, e, h => by cases h with | lst hs ha => exact ⟨_, _, rfl, e _ _ hs, ha⟩
  | .none, _, h | .bool _, _, h | .int _, _, h | .str _, _, h | .tuple _, _, h | .dict _, _, h => h
theorem Dq.rp {K : PySem.W.Frag} {G H : Hp} {v : V} : ∀ {d : PyData}, Ex G H → Dq K G H v d → Rp K H v d
  | .list ds, e, h => by obtain ⟨a, xs, rfl, ha, hd⟩ := h; exact .lst ha (dps_mono e _ _ hd)
  | .none, e, h | .bool _, e, h | .int _, e, h | .str _, e, h | .tuple _, e, h | .dict _, e, h => dp_mono e _ _ h
theorem look_q {K : PySem.W.Frag} {H0 G H : Hp} {s : DSt} {σ : L2.St} {v : V} {r : R} {d : PyData} (S : SA K G s σ H) (h : RRel K H0 G s σ H v r) (e : look r s = some d) : Dq K G H v d := by
  cases r with
  | val d' => cases e; exact .of S.gh h
  | raw u => cases e
  | ob o => cases e
  | new ds =>
    cases e
    obtain ⟨a, xs, rfl, ha, hd, _⟩ := h
    exact ⟨a, xs, rfl, ha, hd⟩
  | slot i =>
    simp only [look] at e
    have h' : σ[i]? = some (some v) := h
    split at e
    · rename_i ds q
      cases e
      obtain ⟨a, xs, e1, ha, hd⟩ := S.slot i _ q
      rw [h'] at e1
      cases e1
      exact ⟨a, xs, rfl, ha, hd⟩
    · rename_i d' q
      cases e
      obtain ⟨u, e1, hd⟩ := S.slot i _ q
      rw [h'] at e1
      cases e1
      exact .of S.gh hd
    · cases e
theorem dq_int {K : PySem.W.Frag} {G H : Hp} {v : V} {i : Int} (h : Dq K G H v (.int i)) : v = .int i := by cases (show Rp K G v (.int i) from h); rfl
theorem dq_bl {K : PySem.W.Frag} {G H : Hp} {v : V} {i : Bool} (h : Dq K G H v (.bool i)) : v = .bl i := by cases (show Rp K G v (.bool i) from h); rfl
theorem dq_str {K : PySem.W.Frag} {G H : Hp} {v : V} {i : Str} (h : Dq K G H v (.str i)) : v = .str i := by cases (show Rp K G v (.str i) from h); rfl
theorem dq_lst {K : PySem.W.Frag} {G H : Hp} {v : V} {ds : List PyData} (h : Dq K G H v (.list ds)) : ∃ a xs, v = .ref a ∧ H a = some (.lst xs) ∧ RpAll K G xs ds := h
theorem dq_tup {K : PySem.W.Frag} {G H : Hp} {v : V} {ds : List PyData} (x : Ex G H) (h : Dq K G H v (.tuple ds)) : ∃ a xs, v = .ref a ∧ SqT K H a xs ∧ RpAll K G xs ds ∧ Rp K G v (.tuple ds) := by
  have h' : Rp K G v (.tuple ds) := h
  cases id h' with
  | tup hs ha => exact ⟨_, _, rfl, .of (x _ _ hs), ha, h'⟩
  | ktup hs ha => exact ⟨_, _, rfl, hs.sq, ha, h'⟩
def Ans (K : PySem.W.Frag) (G H : Hp) (r : R) (Q : VK) : Prop := match r with
  | .val d => (∀ v, Rp K G v d → Q v H) ∧ ∀ ds p vs, d = .tuple ds → H p = none → RpAll K G vs ds → Q (.ref p) (upd H p (.tup vs))
  | .new ds => ∀ p vs, H p = none → RpAll K G vs ds → Q (.ref p) (upd H p (.lst vs))
  | .raw v => Q v H
  | .ob o => (∀ v, ObRel K G v o → Q v H) ∧ (∀ kvs p vs, o = .dict kvs → H p = none → KRp K G vs kvs → Q (.ref p) (upd H p (.dK vs))) ∧ ∀ S n p, o = .set S n → H p = none → Q (.ref p) (upd H p (.set S n))
  | .slot _ => False
theorem ans_of {K : PySem.W.Frag} {cl : String → Addr} {W : WX} {G H H0 : Hp} {s : DSt} {σ : L2.St} {r : R} {Q : VK} (S : SA K G s σ H) (dm : ∀ a, H0 a ≠ none → H a ≠ none) (hr : ∀ i, r ≠ .slot i)
    (h : Out K cl W G s σ H (.ok r s) fun r G' s' H' => ∀ v, RRel K H0 G' s' σ H' v r → Q v H') : Ans K G H r Q := by
  cases r with
  | val d =>
    refine ⟨fun v q => h G H Stp.refl S v q, fun ds p vs e hp hd => ?_⟩
    subst e
    obtain ⟨st, sa⟩ := new_known (.tup vs) S hp
    refine h _ _ st sa _ ?_
    exact .tup upd_same (dps_mono st.ex _ _ hd)
  | new ds =>
    intro p vs hp hd
    obtain ⟨st, sa, rr⟩ := new_list S hp hd dm
    exact h _ _ st sa _ rr
  | raw v => exact h G H Stp.refl S v rfl
  | ob o =>
    refine ⟨fun v q => h G H Stp.refl S v q, fun kvs p vs e hp hd => ?_, fun S' n p e hp => ?_⟩
    · subst e
      obtain ⟨st, sa⟩ := new_known (.dK vs) S hp
      exact h _ _ st sa _ ⟨p, vs, rfl, upd_same, krp_mono st.ex hd⟩
    · subst e
      obtain ⟨st, sa⟩ := new_known (.set S' n) S hp
      exact h _ _ st sa _ ⟨p, rfl, upd_same⟩
  | slot i => exact (hr i rfl).elim
def lift1 (o : PyData → Option R) : R → M R := fun x s => match look x s with
  | some d => match o d with
    | some (.slot _) => .stuck
    | some r => .ok r s
    | none => .stuck
  | none => .stuck
def lift2 (o : PyData → PyData → Option R) : R → R → M R := fun x y s => match look x s, look y s with
  | some d, some e => match o d e with
    | some (.slot _) => .stuck
    | some r => .ok r s
    | none => .stuck
  | _, _ => .stuck
def OpD (K : PySem.W.Frag) (rl : R2) (o : PyData → PyData → Option R) : Prop := ∀ (G H : Hp) (x y : V) (d e : PyData) (r : R) (Q : VK), Ex G H → Dq K G H x d → Dq K G H y e → o d e = some r → Ans K G H r Q → rl x y H Q
theorem ops_lift {K : PySem.W.Frag} {rl : R2} {o : PyData → PyData → Option R} (h : OpD K rl o) : OpS K rl (lift2 o) := by
  intro cl W G s σ H H0 v1 v2 r1 r2 Q S q1 q2 k
  unfold lift2 at k
  split at k
  · rename_i d e e1 e2
    split at k
    · exact k.elim
    · rename_i r ns ho
      exact h G H v1 v2 d e r Q S.gh (look_q S q1 e1) (look_q S q2 e2) ho (ans_of S (fun a z => z) (fun i z => ns i z) k)
    · exact k.elim
  · exact k.elim

/-! ### sums, products .. -/
def addO : PyData → PyData → Option R
  | .int i, .int j => some (.val (.int (i + j)))
  | .list a, .list b => if leS (a.length + b.length) then some (.new (a ++ b)) else none
  | .str a, .str b => if leS (a.length + b.length) then some (.val (.str (a ++ b))) else none
  | .tuple a, .tuple b => if leS (a.length + b.length) then some (.val (.tuple (a ++ b))) else none
  | _, _ => none
def rAddA (K : PySem.W.Frag) : R2 := fun x y H Q => rI0 (fun i j => .int (i + j)) x y H Q ∨ (rCat x y H Q ∨ ((∃ i j, x = .str i ∧ y = .str j ∧ i.length + j.length ≤ sizeLine ∧ Q (.str (i ++ j)) H) ∨ rCatA K x y H Q))
theorem opd_add {K : PySem.W.Frag} : OpD K (rAddA K) addO := by
  intro G H x y d e r Q ex hx hy ho k
  unfold addO at ho
  split at ho
  · cases ho
    obtain rfl := dq_int hx
    obtain rfl := dq_int hy
    exact .inl ⟨_, _, rfl, rfl, k.1 _ (.int _)⟩
  · split at ho
    · cases ho
      rename_i a b hl
      obtain ⟨p, xs, rfl, hp, hpx⟩ := dq_lst hx
      obtain ⟨q, ys, rfl, hq, hqx⟩ := dq_lst hy
      exact .inr (.inl ⟨p, q, xs, ys, rfl, rfl, hp, hq, by rw [dps_len hpx, dps_len hqx]; exact hl, fun l hl => k l _ hl (dps_app hpx hqx)⟩)
    · cases ho
  · split at ho
    · cases ho
      obtain rfl := dq_str hx
      obtain rfl := dq_str hy
      exact .inr (.inr (.inl ⟨_, _, rfl, rfl, by assumption, k.1 _ (.str _)⟩))
    · cases ho
  · split at ho
    · cases ho
      rename_i a b hl
      obtain ⟨p, xs, rfl, hp, hpx, h1⟩ := dq_tup ex hx
      obtain ⟨q, ys, rfl, hq, hqx, h2⟩ := dq_tup ex hy
      refine .inr (.inr (.inr ⟨p, q, xs, ys, rfl, rfl, hp, hq, by rw [dps_len hpx, dps_len hqx]; exact hl, fun z => ?_, fun _ z => ?_, fun _ _ l hl => k.2 _ l _ rfl hl (dps_app hpx hqx)⟩))
      · subst z
        cases hpx
        exact k.1 _ h2
      · subst z
        cases hqx
        simp only [List.append_nil] at k
        exact k.1 _ h1
    · cases ho
  · cases ho
def subO : PyData → PyData → Option R
  | .int i, .int j => some (.val (.int (i - j)))
  | _, _ => none
theorem opd_sub {K : PySem.W.Frag} : OpD K (rI0 fun i j => .int (i - j)) subO := by
  intro G H x y d e r Q ex hx hy ho k
  unfold subO at ho
  split at ho
  · cases ho
    obtain rfl := dq_int hx
    obtain rfl := dq_int hy
    exact ⟨_, _, rfl, rfl, k.1 _ (.int _)⟩
  · cases ho
def mulO : PyData → PyData → Option R
  | .int i, .int j => if lgM i j then some (.val (.int (i * j))) else none
  | .list a, .int k => if inW k ∧ leS (a.length * k.toNat) then some (.new (List.replicate k.toNat a).flatten) else none
  | _, _ => none
theorem dps_rep {K : PySem.W.Frag} {H : Hp} {ds : List PyData} {vs : List V} (h : RpAll K H vs ds) : ∀ n, RpAll K H (List.replicate n vs).flatten (List.replicate n ds).flatten
  | 0 => .nil
  | n + 1 => by
    rw [List.replicate_succ, List.replicate_succ, List.flatten_cons, List.flatten_cons]
    exact dps_app h (dps_rep h n)
def rMulA : R2 := fun x y H Q => rI CMulW (fun i j => .int (i * j)) x y H Q ∨ rRep x y H Q
theorem opd_mul {K : PySem.W.Frag} : OpD K rMulA mulO := by
  intro G H x y d e r Q ex hx hy ho k
  unfold mulO at ho
  split at ho
  · split at ho
    · cases ho
      obtain rfl := dq_int hx
      obtain rfl := dq_int hy
      exact .inl ⟨_, _, rfl, rfl, by assumption, k.1 _ (.int _)⟩
    · cases ho
  · split at ho
    · cases ho
      rename_i a n hl
      obtain ⟨p, xs, rfl, hp, hpx⟩ := dq_lst hx
      obtain rfl := dq_int hy
      exact .inr ⟨p, n, xs, rfl, rfl, hp, hl.1.1, hl.1.2, by rw [dps_len hpx]; exact hl.2, fun l hl => k l _ hl (dps_rep hpx _)⟩
    · cases ho
  · cases ho
def fdivO : PyData → PyData → Option R
  | .int i, .int j => if 0 < j ∧ lgD j then some (.val (.int (i / j))) else none
  | _, _ => none
theorem opd_fdiv {K : PySem.W.Frag} : OpD K (rI CDivW fun i j => .int (i / j)) fdivO := by
  intro G H x y d e r Q ex hx hy ho k
  unfold fdivO at ho
  split at ho
  · split at ho
    · cases ho
      obtain rfl := dq_int hx
      obtain rfl := dq_int hy
      exact ⟨_, _, rfl, rfl, by assumption, k.1 _ (.int _)⟩
    · cases ho
  · cases ho
def modO : PyData → PyData → Option R
  | .int i, .int j => if 0 < j then some (.val (.int (i % j))) else none
  | _, _ => none
theorem opd_mod {K : PySem.W.Frag} : OpD K (rI (fun _ j => 0 < j) fun i j => .int (i % j)) modO := by
  intro G H x y d e r Q ex hx hy ho k
  unfold modO at ho
  split at ho
  · split at ho
    · cases ho
      obtain rfl := dq_int hx
      obtain rfl := dq_int hy
      exact ⟨_, _, rfl, rfl, by assumption, k.1 _ (.int _)⟩
    · cases ho
  · cases ho
def powO : PyData → PyData → Option R
  | .int i, .int j => if 0 ≤ j ∧ leP j ∧ lgP i then some (.val (.int (i ^ j.toNat))) else none
  | _, _ => none
def CPowW (i j : Int) : Prop := 0 ≤ j ∧ j ≤ 30000 ∧ i.natAbs.log2 < 4000
theorem bits_log (i : Int) : Builtin.Int.intBits i ≤ i.natAbs.log2 + 1 := by
  unfold Builtin.Int.intBits
  split <;> omega
theorem op_powW {X : Cx} : OpR X (binaryOp .Pow) (rI CPowW fun i j => .int (i ^ j.toNat)) := by
  intro pins s σ H x y v u Q I r1 r2 h
  obtain ⟨i, j, rfl, rfl, hc, q⟩ := h
  obtain ⟨t, rfl⟩ := r1
  obtain ⟨t', rfl⟩ := r2
  refine pow_int hc.1 ?_ ⟨.int _, H, I.tok _, ⟨_, rfl⟩, q⟩
  have h1 := bits_log i
  have h2 : (Builtin.Int.intBits i : Int) ≤ 4000 := by have := hc.2.2; omega
  have h3 : (Builtin.Int.intBits i : Int) * j ≤ 4000 * 30000 := Int.mul_le_mul h2 hc.2.1 hc.1 (by decide)
  have : (4000 * 30000 : Int) ≤ 2 ^ 27 := by decide
  omega
theorem opd_pow {K : PySem.W.Frag} : OpD K (rI CPowW fun i j => .int (i ^ j.toNat)) powO := by
  intro G H x y d e r Q ex hx hy ho k
  unfold powO at ho
  split at ho
  · split at ho
    · cases ho
      obtain rfl := dq_int hx
      obtain rfl := dq_int hy
      exact ⟨_, _, rfl, rfl, by assumption, k.1 _ (.int _)⟩
    · cases ho
  · cases ho

/-! ### comparisons -/
def ltO : PyData → PyData → Option R
  | .int i, .int j => some (.val (.bool (decide (i < j))))
  | _, _ => none
def leO : PyData → PyData → Option R
  | .int i, .int j => some (.val (.bool (decide (i ≤ j))))
  | _, _ => none
def gtO : PyData → PyData → Option R
  | .int i, .int j => some (.val (.bool (decide (j < i))))
  | _, _ => none
def geO : PyData → PyData → Option R
  | .int i, .int j => some (.val (.bool (decide (j ≤ i))))
  | _, _ => none
theorem opd_cmpI {K : PySem.W.Frag} {p : Int → Int → Bool} {o : PyData → PyData → Option R} (h1 : ∀ i j, o (.int i) (.int j) = some (.val (.bool (p i j)))) (h2 : ∀ d e r, o d e = some r → ∃ i j, d = .int i ∧ e = .int j) :
    OpD K (rI0 fun i j => .bl (p i j)) o := by
  intro G H x y d e r Q ex hx hy ho k
  obtain ⟨i, j, rfl, rfl⟩ := h2 d e r ho
  rw [h1] at ho
  cases ho
  obtain rfl := dq_int hx
  obtain rfl := dq_int hy
  exact ⟨_, _, rfl, rfl, k.1 _ (.bl _)⟩
theorem opd_lt {K : PySem.W.Frag} : OpD K (rI0 fun i j => .bl (decide (i < j))) ltO := opd_cmpI (fun _ _ => rfl) fun d e r h => by unfold ltO at h; split at h <;> simp_all
theorem opd_le {K : PySem.W.Frag} : OpD K (rI0 fun i j => .bl (decide (i ≤ j))) leO := opd_cmpI (fun _ _ => rfl) fun d e r h => by unfold leO at h; split at h <;> simp_all
theorem opd_gt {K : PySem.W.Frag} : OpD K (rI0 fun i j => .bl (decide (j < i))) gtO := opd_cmpI (fun _ _ => rfl) fun d e r h => by unfold gtO at h; split at h <;> simp_all
theorem opd_ge {K : PySem.W.Frag} : OpD K (rI0 fun i j => .bl (decide (j ≤ i))) geO := opd_cmpI (fun _ _ => rfl) fun d e r h => by unfold geO at h; split at h <;> simp_all
def rEqP (K : PySem.W.Frag) (neg : Bool) : R2 := fun x y H Q => ∃ d e, Dp K H x d ∧ Dp K H y e ∧ d.plain = true ∧ e.plain = true ∧ min d.depth e.depth ≤ 60 ∧ Q (.bl (if neg then !PyData.eqv d e else PyData.eqv d e)) H
section
variable {X : Cx}
theorem op_eqP (hu : X.A.units + 64 < cLine) : OpR X (compareOp .Eq) (rEqP X.K false) := by
  intro pins s σ H x y v u Q I rx ry h
  obtain ⟨d, e, hd, he, sd, se, dm, q⟩ := h
  obtain ⟨as, r1⟩ := Dp.reads I d x v hd rx
  obtain ⟨bs, r2⟩ := Dp.reads I e y u he ry
  exact SeqAt.eq_plain r1 r2 sd se (by omega) ⟨.bl _, H, I, rfl, q⟩
theorem op_neP (hu : X.A.units + 64 < cLine) : OpR X (compareOp .NotEq) (rEqP X.K true) := by
  intro pins s σ H x y v u Q I rx ry h
  obtain ⟨d, e, hd, he, sd, se, dm, q⟩ := h
  obtain ⟨as, r1⟩ := Dp.reads I d x v hd rx
  obtain ⟨bs, r2⟩ := Dp.reads I e y u he ry
  exact SeqAt.ne_plain r1 r2 sd se (by omega) ⟨.bl _, H, I, rfl, q⟩
end
def eqO (d e : PyData) : Option R := if min d.depth e.depth ≤ 60 then some (.val (.bool (PyData.eqv d e))) else none
def neO (d e : PyData) : Option R := if min d.depth e.depth ≤ 60 then some (.val (.bool (!PyData.eqv d e))) else none
theorem opd_eq {K : PySem.W.Frag} : OpD K (rEqP K false) eqO := by
  intro G H x y d e r Q ex hx hy ho k
  unfold eqO at ho
  split at ho
  · cases ho
    have h1 := hx.rp ex
    have h2 := hy.rp ex
    exact ⟨d, e, rp_dp _ _ h1, rp_dp _ _ h2, rp_plain _ _ h1, rp_plain _ _ h2, by assumption, k.1 _ (.bl _)⟩
  · cases ho
theorem opd_ne {K : PySem.W.Frag} : OpD K (rEqP K true) neO := by
  intro G H x y d e r Q ex hx hy ho k
  unfold neO at ho
  split at ho
  · cases ho
    have h1 := hx.rp ex
    have h2 := hy.rp ex
    exact ⟨d, e, rp_dp _ _ h1, rp_dp _ _ h2, rp_plain _ _ h1, rp_plain _ _ h2, by assumption, k.1 _ (.bl _)⟩
  · cases ho
def rInP (K : PySem.W.Frag) (neg : Bool) : R2 := fun x y H Q => ∃ d ds, Dp K H x d ∧ (Dp K H y (.list ds) ∨ Dp K H y (.tuple ds)) ∧ d.plain = true ∧ PyData.plainAll ds = true ∧ min (PyData.depthAll ds) d.depth ≤ 60 ∧
  Q (.bl (if neg then !ds.any fun z => PyData.eqv z d else ds.any fun z => PyData.eqv z d)) H
section
variable {X : Cx}
theorem op_inP (hu : X.A.units + 64 < cLine) : OpR X (compareOp .In) (rInP X.K false) := by
  intro pins s σ H x y v u Q I rx ry h
  obtain ⟨d, ds, hd, he, sd, se, dm, q⟩ := h
  obtain ⟨as, r1⟩ := Dp.reads I d x v hd rx
  rcases he with he | he
  · obtain ⟨bs, r2⟩ := Dp.reads I _ y u he ry
    exact SeqAt.in_list_data r2 r1 se sd (by omega) ⟨.bl _, H, I, rfl, q⟩
  · obtain ⟨bs, r2⟩ := Dp.reads I _ y u he ry
    exact SeqAt.in_tuple_data r2 r1 se sd (by omega) ⟨.bl _, H, I, rfl, q⟩
end
def items : PyData → Option (List PyData)
  | .list ds => some ds
  | .tuple ds => some ds
  | _ => none
def inO (d e : PyData) : Option R := match items e with
  | some ds => if min (PyData.depthAll ds) d.depth ≤ 60 then some (.val (.bool (ds.any fun z => PyData.eqv z d))) else none
  | none => none
def notInO (d e : PyData) : Option R := match items e with
  | some ds => if min (PyData.depthAll ds) d.depth ≤ 60 then some (.val (.bool (!ds.any fun z => PyData.eqv z d))) else none
  | none => none
theorem items_dp {K : PySem.W.Frag} {H : Hp} {v : V} {e : PyData} {ds : List PyData} (h : Rp K H v e) (q : items e = some ds) : (Dp K H v (.list ds) ∨ Dp K H v (.tuple ds)) ∧ PyData.plainAll ds = true := by
  unfold items at q
  split at q
  · cases q
    refine ⟨.inl (rp_dp _ _ h), ?_⟩
    have := rp_plain _ _ h
    simpa [PyData.plain] using this
  · cases q
    refine ⟨.inr (rp_dp _ _ h), ?_⟩
    have := rp_plain _ _ h
    simpa [PyData.plain] using this
  · cases q
theorem opd_in {K : PySem.W.Frag} : OpD K (rInP K false) inO := by
  intro G H x y d e r Q ex hx hy ho k
  unfold inO at ho
  split at ho
  · rename_i ds hi
    split at ho
    · cases ho
      have h1 := hx.rp ex
      obtain ⟨h2, h3⟩ := items_dp (hy.rp ex) hi
      exact ⟨d, ds, rp_dp _ _ h1, h2, rp_plain _ _ h1, h3, by assumption, k.1 _ (.bl _)⟩
    · cases ho
  · cases ho
/-! ### places -/
def ixO : PyData → PyData → Option R
  | .list ds, .int i => (atI ds i).map .val
  | .tuple ds, .int i => (atI ds i).map .val
  | .str z, .int i => if leS (z.length) then (atI z.cps.toList i).map fun c => .val (.str ⟨#[c]⟩) else none
  | _, _ => none
theorem atI_rp {K : PySem.W.Frag} {G : Hp} {xs : List V} {ds : List PyData} {i : Int} {d : PyData} (h : RpAll K G xs ds) (e : atI ds i = some d) : ∃ v, atI xs i = some v ∧ Rp K G v d := by
  unfold atI at e ⊢
  rw [dps_len h]
  cases q : ixN ds.length i with
  | none => rw [q] at e; cases e
  | some j =>
    rw [q] at e
    have e : ds[j]? = some d := e
    have hj : j < xs.length := by rw [dps_len h]; exact (List.getElem?_eq_some_iff.mp e).1
    obtain ⟨d', e', r⟩ := dps_get h (List.getElem?_eq_getElem hj)
    rw [e] at e'
    cases e'
    exact ⟨xs[j], by simp [hj], r⟩
theorem opd_ix {K : PySem.W.Frag} : OpD K (rIx K) ixO := by
  intro G H x y d e r Q ex hx hy ho k
  unfold ixO at ho
  split at ho
  · rename_i ds i
    cases q : atI ds i with
    | none => rw [q] at ho; cases ho
    | some z =>
      rw [q] at ho
      cases ho
      obtain rfl := dq_int hy
      obtain ⟨p, xs, rfl, hp, hpx⟩ := dq_lst hx
      obtain ⟨v, e1, r1⟩ := atI_rp hpx q
      exact .inl ⟨p, xs, i, v, rfl, rfl, .of hp, e1, k.1 _ r1⟩
  · rename_i ds i
    cases q : atI ds i with
    | none => rw [q] at ho; cases ho
    | some z =>
      rw [q] at ho
      cases ho
      obtain rfl := dq_int hy
      obtain ⟨p, xs, rfl, hp, hpx, _⟩ := dq_tup ex hx
      obtain ⟨v, e1, r1⟩ := atI_rp hpx q
      exact .inr (.inl ⟨p, xs, i, v, rfl, rfl, hp, e1, k.1 _ r1⟩)
  · rename_i z i
    split at ho
    · cases q : atI z.cps.toList i with
      | none => rw [q] at ho; cases ho
      | some c =>
        rw [q] at ho
        cases ho
        obtain rfl := dq_int hy
        obtain rfl := dq_str hx
        exact .inr (.inr ⟨z, i, c, rfl, rfl, by assumption, q, k.1 _ (.str _)⟩)
    · cases ho
  · cases ho
section
variable {X : Cx} {cl : String → Addr} {W : WX} {a b : Expr} {f g : M R} {pos : Pos}
theorem d_add (ha : DE X cl W a f) (hb : DE X cl W b g) : DE X cl W (.BinOp a .Add b pos) (fOp (lift2 addO) f g) := d_op2 (pe_op (OpR.or' op_add (OpR.or' op_cat (OpR.or' op_add_str op_catA)))) (ops_lift opd_add) ha hb
theorem d_sub (ha : DE X cl W a f) (hb : DE X cl W b g) : DE X cl W (.BinOp a .Sub b pos) (fOp (lift2 subO) f g) := d_op2 (pe_op op_sub) (ops_lift opd_sub) ha hb
theorem d_mul (ha : DE X cl W a f) (hb : DE X cl W b g) : DE X cl W (.BinOp a .Mult b pos) (fOp (lift2 mulO) f g) := d_op2 (pe_op (OpR.or' op_mulW op_rep)) (ops_lift opd_mul) ha hb
theorem d_fdiv (ha : DE X cl W a f) (hb : DE X cl W b g) : DE X cl W (.BinOp a .FloorDiv b pos) (fOp (lift2 fdivO) f g) := d_op2 (pe_op op_fdivW) (ops_lift opd_fdiv) ha hb
theorem d_mod (ha : DE X cl W a f) (hb : DE X cl W b g) : DE X cl W (.BinOp a .Mod b pos) (fOp (lift2 modO) f g) := d_op2 (pe_op op_mod) (ops_lift opd_mod) ha hb
theorem d_pow (ha : DE X cl W a f) (hb : DE X cl W b g) : DE X cl W (.BinOp a .Pow b pos) (fOp (lift2 powO) f g) := d_op2 (pe_op op_powW) (ops_lift opd_pow) ha hb
theorem d_eq (hu : X.A.units + 64 < cLine) (ha : DE X cl W a f) (hb : DE X cl W b g) : DE X cl W (.Compare a [.Eq] [b] pos) (fOp (lift2 eqO) f g) := d_op2 (fun h1 h2 => pe_cmpR (op_eqP hu) h1 h2 (nomark _)) (ops_lift opd_eq) ha hb
theorem d_ne (hu : X.A.units + 64 < cLine) (ha : DE X cl W a f) (hb : DE X cl W b g) : DE X cl W (.Compare a [.NotEq] [b] pos) (fOp (lift2 neO) f g) := d_op2 (fun h1 h2 => pe_cmpR (op_neP hu) h1 h2 (nomark _)) (ops_lift opd_ne) ha hb
theorem d_ix (ha : DE X cl W a f) (hb : DE X cl W b g) (hs : PlainIx b) : DE X cl W (.Subscript a b pos) (fOp (lift2 ixO) f g) := d_op2 (fun h1 h2 => pe_ix ix_seq h1 h2 hs) (ops_lift opd_ix) ha hb
end
end DL

/-! DL4: tests, argument lists, displays, statements -/
noncomputable section
namespace DL
open PySem L2 PyProof.Rows
open Evl (Ex)

/-! ### tests -/
def fB (f : M R) : M Bool := bnd f fun r s => match look r s with
  | some (.bool b) => .ok b s
  | _ => .stuck
section
variable {X : Cx} {cl : String → Addr} {W : WX}
theorem test_of {K : PySem.W.Frag} {f : M R} {σ : L2.St} {H : Hp} {Q : Bool → Hp → Prop} (h : tT K cl W (fB f) σ H Q) : tD K cl W f σ H fun x H1 => ∃ k, x = .bl k ∧ Q k H1 := by
  obtain ⟨G, s, S, q⟩ := h
  refine ⟨G, s, S, out_mono (out_bind q) fun r G1 s1 H1 st S1 q1 v rr => ?_⟩
  split at q1
  · rename_i b e
    obtain rfl := dq_bl (look_q S1 rr e)
    exact ⟨b, rfl, q1 G1 H1 Stp.refl S1⟩
  · exact q1.elim
theorem d_tval {e : Expr} {f : M R} (h : DE X cl W e f) (he : ∀ whole, isTrue e X.env whole = (do let v ← whole; standAt e.pos; holding [v] (truthy v)) := by intro _; rfl) : DT X cl W e (fB f) :=
  pt_imp (pt_val h he) fun σ H Q q => test_of q
theorem d_opT {e a b : Expr} {f g : M R} {rl : R2} {o : R → R → M R} (h : ∀ {ta tb : TE}, PE X a ta → PE X b tb → PT X e (tTest (tOp rl ta tb))) (ho : OpS X.K rl o) (ha : DE X cl W a f) (hb : DE X cl W b g) : DT X cl W e (fB (fOp o f g)) := by
  refine pt_imp (h ha hb) fun σ H Q q => ?_
  obtain ⟨G, s, S, q⟩ := test_of q
  refine ⟨G, s, S, out_mono (out_bind q) fun x G1 s1 H1 st1 S1 q1 v1 r1 => ⟨G1, s1, S1, ?_⟩⟩
  refine out_mono (out_bind q1) fun y G2 s2 H2 st2 S2 q2 v2 r2 => ?_
  exact ho cl W G2 s2 σ H2 H v1 v2 x y _ S2 (r1.mono st2) (r2.less st1.dom) (out_less (st1.trans st2).dom q2)
def fAnd (f g : M Bool) : M Bool := bnd f fun b => if b then g else ret false
def fOr (f g : M Bool) : M Bool := bnd f fun b => if b then ret true else g
def fNot (f : M Bool) : M Bool := bnd f fun b => ret (!b)
theorem tand_of {K : PySem.W.Frag} {f g : M Bool} {σ : L2.St} {H : Hp} {Q : Bool → Hp → Prop} (h : tT K cl W (fAnd f g) σ H Q) : tAnd (tT K cl W f) (tT K cl W g) σ H Q := by
  obtain ⟨G, s, S, q⟩ := h
  refine ⟨G, s, S, out_mono (out_bind q) fun b G1 s1 H1 st S1 q1 => ?_⟩
  cases b with
  | true => exact ⟨G1, s1, S1, q1⟩
  | false => exact q1 G1 H1 Stp.refl S1
theorem tor_of {K : PySem.W.Frag} {f g : M Bool} {σ : L2.St} {H : Hp} {Q : Bool → Hp → Prop} (h : tT K cl W (fOr f g) σ H Q) : tOr (tT K cl W f) (tT K cl W g) σ H Q := by
  obtain ⟨G, s, S, q⟩ := h
  refine ⟨G, s, S, out_mono (out_bind q) fun b G1 s1 H1 st S1 q1 => ?_⟩
  cases b with
  | true => exact q1 G1 H1 Stp.refl S1
  | false => exact ⟨G1, s1, S1, q1⟩
theorem d_tnot {a : Expr} {f : M Bool} {pos : Pos} (ha : DT X cl W a f) : DT X cl W (.UnaryOp .Not a pos) (fNot f) := pt_imp (pt_not ha) fun σ H Q ⟨G, s, S, q⟩ =>
  ⟨G, s, S, out_mono (out_bind q) fun b G1 s1 H1 st S1 q1 => q1 G1 H1 Stp.refl S1⟩
theorem w_and1 {a : Expr} {f : M Bool} {pos : Pos} (ha : DT X cl W a f) : DW X cl W (.BoolOp .And [a] pos) f := pw_and1 ha
theorem w_or1 {a : Expr} {f : M Bool} {pos : Pos} (ha : DT X cl W a f) : DW X cl W (.BoolOp .Or [a] pos) f := pw_or1 ha
theorem w_and {a b : Expr} {rest : List Expr} {f g : M Bool} {pos : Pos} (ha : DT X cl W a f) (hb : DW X cl W (.BoolOp .And (b :: rest) pos) g) : DW X cl W (.BoolOp .And (a :: b :: rest) pos) (fAnd f g) := pw_imp (pw_and ha hb) fun σ H Q q => tand_of q
theorem w_or {a b : Expr} {rest : List Expr} {f g : M Bool} {pos : Pos} (ha : DT X cl W a f) (hb : DW X cl W (.BoolOp .Or (b :: rest) pos) g) : DW X cl W (.BoolOp .Or (a :: b :: rest) pos) (fOr f g) := pw_imp (pw_or ha hb) fun σ H Q q => tor_of q
theorem d_tw {e : Expr} {f : M Bool} (h : DW X cl W e f) : DT X cl W e f := PW.pt h
def fV (f : M Bool) : M R := bnd f fun b => ret (.val (.bool b))
def fAndV (f g : M R) : M R := bnd (fB f) fun b => if b then g else ret (.val (.bool false))
def fOrV (f g : M R) : M R := bnd (fB f) fun b => if b then ret (.val (.bool true)) else g
def fIf (c : M Bool) (f g : M R) : M R := bnd c fun b => if b then f else g
/-! ### what is handed on: known from then on -/
def AR (K : PySem.W.Frag) (G : Hp) (v : V) : R → Prop
  | .val d => Rp K G v d
  | .raw u => v = u
  | .ob o => ObRel K G v o
  | _ => False
def esc (r : R) (s : DSt) : Option (R × DSt) := match r with
  | .val d => some (.val d, s)
  | .raw v => some (.raw v, s)
  | .ob o => some (.ob o, s)
  | .new ds => some (.val (.list ds), s)
  | .slot i => match s.d[i]? with
    | some (.own ds) => some (.val (.list ds), { s with d := s.d.set i (.val (.list ds)) })
    | some (.val d) => some (.val d, s)
    | _ => none
theorem know {K : PySem.W.Frag} {G H : Hp} {s : DSt} {σ : L2.St} {a : Addr} {xs : List V} {ds : List PyData} (S : SA K G s σ H) (ha : H a = some (.lst xs)) (hd : RpAll K G xs ds) (hg : G a = none) (hn : ¬ Own s σ a) :
    Ex G (upd G a (.lst xs)) ∧ SA K (upd G a (.lst xs)) s σ H ∧ Rp K (upd G a (.lst xs)) (.ref a) (.list ds) := by
  have ug : Ex G (upd G a (.lst xs)) := Ex.new hg
  refine ⟨ug, ⟨S.len, fun b u h => ?_, fun i sl h => ?_, S.inj, fun i b z => ?_, ?_, S.pne⟩, .lst upd_same (dps_mono ug _ _ hd)⟩
  · by_cases e : b = a
    · subst e; rw [upd_same] at h; rw [ha]; exact h
    · rw [upd_ne e] at h; exact S.gh b u h
  · have q := S.slot i sl h
    cases sl with
    | no => trivial
    | val d => obtain ⟨v, e, hd⟩ := q; exact ⟨v, e, dp_mono ug _ _ hd⟩
    | raw v => exact q
    | ob o => obtain ⟨v, e, hd⟩ := q; exact ⟨v, e, ob_mono ug hd⟩
    | own es => obtain ⟨b, ys, e, hb, hh⟩ := q; exact ⟨b, ys, e, hb, dps_mono ug _ _ hh⟩
  · rw [upd_ne fun e => hn (by subst e; exact .inl ⟨i, z⟩)]; exact S.ownG i b z
  · exact pwok_to S.pw (fun a o h _ => h) (fun a φ h => h) fun b z => by rw [upd_ne fun q => hn (by subst q; exact .inr z)]; exact G_pown S.pw z
theorem own_set {s : DSt} {σ : L2.St} {i j : Nat} {d : PyData} {a : Addr} : OwnAt { s with d := s.d.set i (.val d) } σ j a ↔ j ≠ i ∧ OwnAt s σ j a := by
  constructor
  · rintro ⟨⟨ds, e⟩, h⟩
    by_cases q : j = i
    · subst q
      simp only [List.getElem?_set] at e
      split at e
      · split at e <;> cases e
      · rename_i z; simp at z
    · simp only [List.getElem?_set_ne (Ne.symm q)] at e
      exact ⟨q, ⟨ds, e⟩, h⟩
  · rintro ⟨q, ⟨ds, e⟩, h⟩
    refine ⟨⟨ds, ?_⟩, h⟩
    simp only [List.getElem?_set_ne (Ne.symm q)]
    exact e
theorem slot_known {K : PySem.W.Frag} {G H : Hp} {s : DSt} {σ : L2.St} {i : Nat} {ds : List PyData} (S : SA K G s σ H) (h : s.d[i]? = some (.own ds)) :
    ∃ a xs, σ[i]? = some (some (.ref a)) ∧ H a = some (.lst xs) ∧ Stp G s σ H (upd G a (.lst xs)) { s with d := s.d.set i (.val (.list ds)) } σ H ∧ SA K (upd G a (.lst xs)) { s with d := s.d.set i (.val (.list ds)) } σ H ∧ Rp K (upd G a (.lst xs)) (.ref a) (.list ds) := by
  obtain ⟨a, xs, e, ha, hd⟩ := S.slot i _ h
  have e' : σ[i]? = some (some (.ref a)) := by
    cases z : σ[i]? with
    | none => rw [z] at e; cases e
    | some o => rw [z] at e; simp at e; rw [e]
  have hown : OwnAt s σ i a := ⟨⟨ds, h⟩, e'⟩
  have hg := S.ownG i a hown
  have il : i < s.d.length := (List.getElem?_eq_some_iff.mp h).1
  have ug : Ex G (upd G a (.lst xs)) := Ex.new hg
  have rp : Rp K (upd G a (.lst xs)) (.ref a) (.list ds) := .lst upd_same (dps_mono ug _ _ hd)
  refine ⟨a, xs, e', ha, ⟨ug, fun b u hb nb => ⟨hb, upd_ne fun z => nb (by subst z; exact .inl ⟨i, hown⟩)⟩, fun b z => ?_, fun b z => z, fun b z => z⟩, ⟨by simp [S.len], fun b u hb => ?_, fun j sl hj => ?_, fun j k b h1 h2 => ?_, fun j b z => ?_, ?_, fun j b z => ?_⟩, rp⟩
  · refine .inl ?_
    rcases z with ⟨j, z⟩ | z
    · exact .inl ⟨j, (own_set.mp z).2⟩
    · exact .inr z
  · by_cases q : b = a
    · subst q; rw [upd_same] at hb; rw [ha]; exact hb
    · rw [upd_ne q] at hb; exact S.gh b u hb
  · by_cases q : j = i
    · subst q
      simp only [List.getElem?_set_self il] at hj
      cases hj
      exact ⟨.ref a, by rw [e'] <;> rfl, rp⟩
    · simp only [List.getElem?_set_ne (Ne.symm q)] at hj
      have z := S.slot j sl hj
      cases sl with
      | no => trivial
      | val d => obtain ⟨v, e, hd⟩ := z; exact ⟨v, e, dp_mono ug _ _ hd⟩
      | raw v => exact z
      | ob o => obtain ⟨v, e, hd⟩ := z; exact ⟨v, e, ob_mono ug hd⟩
      | own es => obtain ⟨b, ys, e, hb, hh⟩ := z; exact ⟨b, ys, e, hb, dps_mono ug _ _ hh⟩
  · exact S.inj j k b (own_set.mp h1).2 (own_set.mp h2).2
  · obtain ⟨q, z⟩ := own_set.mp z
    rw [upd_ne fun e => q (by subst e; exact S.inj j i b z hown)]
    exact S.ownG j b z
  · exact pwok_to S.pw (fun a o h _ => h) (fun a φ h => h) fun b z => by rw [upd_ne fun q => S.pne i a hown (by subst q; exact z)]; exact G_pown S.pw z
  · exact S.pne j b (own_set.mp z).2
theorem esc_ok {K : PySem.W.Frag} {G0 H0 G H : Hp} {s0 s : DSt} {σ0 σ : L2.St} {v : V} {r r' : R} {s' : DSt} (S : SA K G s σ H) (st : Stp G0 s0 σ0 H0 G s σ H) (h : RRel K H0 G s σ H v r) (e : esc r s = some (r', s')) :
    ∃ G', Stp G0 s0 σ0 H0 G' s' σ H ∧ SA K G' s' σ H ∧ Ex G G' ∧ AR K G' v r' := by
  cases r with
  | val d => cases e; exact ⟨G, st, S, Ex.refl G, h⟩
  | raw u => cases e; exact ⟨G, st, S, Ex.refl G, h⟩
  | ob o => cases e; exact ⟨G, st, S, Ex.refl G, h⟩
  | new ds =>
    cases e
    obtain ⟨a, xs, rfl, ha, hd, hg, h0, hn⟩ := h
    obtain ⟨ug, S', rp⟩ := know S ha hd hg hn
    refine ⟨_, ⟨st.ex.trans ug, fun b u hb nb => ?_, st.own, st.dom, st.pw⟩, S', ug, rp⟩
    obtain ⟨h1, g1⟩ := st.keep b u hb nb
    exact ⟨h1, by rw [upd_ne fun z => by subst z; rw [h0] at hb; cases hb]; exact g1⟩
  | slot i =>
    simp only [esc] at e
    split at e
    · rename_i ds q
      cases e
      obtain ⟨a, xs, e1, ha, st', S', rp⟩ := slot_known S q
      have h' : σ[i]? = some (some v) := h
      rw [e1] at h'
      cases h'
      exact ⟨_, st.trans st', S', st'.ex, rp⟩
    · rename_i d q
      cases e
      have h' : σ[i]? = some (some v) := h
      obtain ⟨u, e1, hd⟩ := S.slot i _ q
      rw [h'] at e1
      cases e1
      exact ⟨G, st, S, Ex.refl G, hd⟩
    · cases e
def fEsc (r : R) : M R := fun s => match esc r s with
  | some (r', s') => .ok r' s'
  | none => .stuck
theorem ar_mono {K : PySem.W.Frag} {G G' : Hp} {v : V} {r : R} (e : Ex G G') (h : AR K G v r) : AR K G' v r := by
  cases r with
  | val d => exact dp_mono e _ _ h
  | raw u => exact h
  | ob o => exact ob_mono e h
  | new ds => exact h
  | slot i => exact h
end
end DL

/-! DL5: argument lists, displays, slices, statements -/
noncomputable section
namespace DL
open PySem L2 PyProof.Rows
open Evl (Ex)
section
variable {K : PySem.W.Frag} {cl : String → Addr} {W : WX} {G H : Hp} {s : DSt} {σ : L2.St}
def OutF {α : Type} (K : PySem.W.Frag) (cl : String → Addr) (W : WX) (G0 : Hp) (s0 : DSt) (σ0 : L2.St) (H0 : Hp) (σ : L2.St) (r : Res α) (k : α → Hp → DSt → Hp → Prop) : Prop := match r with
  | .ok a s' => ∀ G' H', Stp G0 s0 σ0 H0 G' s' σ H' → SA K G' s' σ H' → k a G' s' H'
  | .err x s' => ∀ cls d G' H', Stp G0 s0 σ0 H0 G' s' σ H' → SA K G' s' σ H' → XRel K cl x cls d G' → W cls d σ H'
  | .stuck => False
theorem out_esc {β : Type} {f : Res R} {g : R → M β} {k : β → Hp → DSt → Hp → Prop} (h : Out K cl W G s σ H (f.bind fun r => bnd (fEsc r) g) k) :
    Out K cl W G s σ H f fun r G1 s1 H1 => ∀ v, RRel K H G1 s1 σ H1 v r → ∃ G2 s2 r2, Stp G s σ H G2 s2 σ H1 ∧ SA K G2 s2 σ H1 ∧ AR K G2 v r2 ∧ Ex G1 G2 ∧
      Out K cl W G2 s2 σ H1 (g r2 s2) k := by
  cases f with
  | ok r s1 =>
    intro G1 H1 st S1 v rr
    have h : Out K cl W G s σ H ((fEsc r s1).bind g) k := h
    unfold fEsc at h
    cases e : esc r s1 with
    | none => rw [e] at h; exact h.elim
    | some p =>
      obtain ⟨r2, s2⟩ := p
      rw [e] at h
      obtain ⟨G2, st2, S2, ex, ar⟩ := esc_ok S1 st rr e
      refine ⟨G2, s2, r2, st2, S2, ar, ex, ?_⟩
      have h : Out K cl W G s σ H (g r2 s2) k := h
      cases q : g r2 s2 with
      | ok b s3 => rw [q] at h; exact fun G3 H3 st3 S3 => h G3 H3 (st2.trans st3) S3
      | err x s3 => rw [q] at h; exact fun c d G3 H3 st3 S3 xr => h c d G3 H3 (st2.trans st3) S3 xr
      | stuck => rw [q] at h; exact h
  | err x s1 => exact h
  | stuck => exact h
def tAe (K : PySem.W.Frag) (cl : String → Addr) (W : WX) (f : M (List R)) : TA := fun σ H Q => ∃ G s, SA K G s σ H ∧ Out K cl W G s σ H (f s) fun rs G' s' H' => ∀ vs, Paired (AR K G') vs rs → Q vs H'
end
section
variable {X : Cx} {cl : String → Addr} {W : WX} {e a b c : Expr} {es : List Expr} {f g : M R} {fs : M (List R)} {pos : Pos}
abbrev DAe (X : Cx) (cl : String → Addr) (W : WX) (es : List Expr) (f : M (List R)) : Prop := PA X es (tAe X.K cl W f)
def fNil : M (List R) := ret []
def fCons (f : M R) (fs : M (List R)) : M (List R) := bnd f fun r => bnd (fEsc r) fun r' => bnd fs fun rs => ret (r' :: rs)
def pCons (f : M R) (fs : M (List R)) : M (List R) := bnd f fun r => bnd fs fun rs => ret (r :: rs)
theorem ae_nil : DAe X cl W [] fNil := pa_imp pa_nil fun σ H Q ⟨G, s, S, q⟩ => q G H Stp.refl S [] .nil
theorem ae_cons (ha : DE X cl W e f) (hr : DAe X cl W es fs) (hs : starEach (e :: es) X.env = (false, eval e X.env) :: starEach es X.env := by rfl) : DAe X cl W (e :: es) (fCons f fs) := by
  refine pa_imp (pa_cons ha hr hs) fun σ H Q ⟨G, s, S, q⟩ => ?_
  refine ⟨G, s, S, out_mono (out_esc q) fun r G1 s1 H1 st S1 k v rr => ?_⟩
  obtain ⟨G2, s2, r2, st2, S2, ar, ex, k2⟩ := k v rr
  refine ⟨G2, s2, S2, out_mono (out_bind k2) fun rs G3 s3 H3 st3 S3 k3 vs hv => ?_⟩
  exact k3 G3 H3 Stp.refl S3 (v :: vs) (.cons (ar_mono st3.ex ar) hv)
theorem ap_nil : DA X cl W [] fNil := pa_imp pa_nil fun σ H Q ⟨G, s, S, q⟩ => q G H Stp.refl S [] .nil
theorem pair_less {K : PySem.W.Frag} {H0 H1 G H : Hp} {s : DSt} {σ : L2.St} (d : ∀ a, H0 a ≠ none → H1 a ≠ none) : ∀ {vs : List V} {rs : List R}, RRels K H1 G s σ H vs rs → RRels K H0 G s σ H vs rs
  | _, _, .nil => .nil
  | _, _, .cons h t => .cons (h.less d) (pair_less d t)
theorem ap_cons (ha : DE X cl W e f) (hr : DA X cl W es fs) (hs : starEach (e :: es) X.env = (false, eval e X.env) :: starEach es X.env := by rfl) : DA X cl W (e :: es) (pCons f fs) := by
  refine pa_imp (pa_cons ha hr hs) fun σ H Q ⟨G, s, S, q⟩ => ?_
  refine ⟨G, s, S, out_mono (out_bind q) fun r G1 s1 H1 st S1 k v rr => ?_⟩
  refine ⟨G1, s1, S1, out_mono (out_bind k) fun rs G3 s3 H3 st3 S3 k3 vs hv => ?_⟩
  exact k3 G3 H3 Stp.refl S3 (v :: vs) (.cons (rr.mono st3) (pair_less st.dom hv))
def datas : List R → Option (List PyData)
  | [] => some []
  | .val d :: r => (datas r).map (d :: ·)
  | _ :: _ => none
theorem datas_rp {K : PySem.W.Frag} {G : Hp} : ∀ {rs : List R} {vs : List V} {ds : List PyData}, Paired (AR K G) vs rs → datas rs = some ds → RpAll K G vs ds
  | [], _, ds, .nil, e => by cases e; exact .nil
  | .val d :: r, _, ds, .cons h t, e => by
    simp only [datas] at e
    cases q : datas r with
    | none => rw [q] at e; cases e
    | some es => rw [q] at e; cases e; exact .cons h (datas_rp t q)
  | .raw _ :: _, _, _, _, e | .ob _ :: _, _, _, _, e | .new _ :: _, _, _, _, e | .slot _ :: _, _, _, _, e => by cases e
def fLst (fs : M (List R)) : M R := bnd fs fun rs s => match datas rs with
  | some ds => if leS (ds.length) then .ok (.new ds) s else .stuck
  | none => .stuck
def fTup (fs : M (List R)) : M R := bnd fs fun rs s => match datas rs with
  | some ds => if leS (ds.length) then .ok (.val (.tuple ds)) s else .stuck
  | none => .stuck
theorem d_lst (h : DAe X cl W es fs) : DE X cl W (.List es pos) (fLst fs) := by
  refine pe_imp (pe_lst h) fun σ H Q ⟨G, s, S, q⟩ => ?_
  refine ⟨G, s, S, out_mono (out_bind q) fun rs G1 s1 H1 st S1 k vs hv => ?_⟩
  split at k
  · rename_i ds e
    split at k
    · rename_i hl
      have hd := datas_rp hv e
      refine ⟨by rw [dps_len hd]; exact hl, fun p hp => ?_⟩
      obtain ⟨st2, S2, rr⟩ := new_list S1 hp hd st.dom
      exact k _ _ st2 S2 _ rr
    · exact k.elim
  · exact k.elim
theorem d_tup {x1} (h : DAe X cl W es fs) : DE X cl W (.Tuple es x1 pos) (fTup fs) := by
  refine pe_imp (pe_tup h) fun σ H Q ⟨G, s, S, q⟩ => ?_
  refine ⟨G, s, S, out_mono (out_bind q) fun rs G1 s1 H1 st S1 k vs hv => ?_⟩
  split at k
  · rename_i ds e
    split at k
    · rename_i hl
      have hd := datas_rp hv e
      refine ⟨by rw [dps_len hd]; exact hl, fun p hp => ?_⟩
      obtain ⟨st2, S2⟩ := new_known (.tup vs) S1 hp
      exact k _ _ st2 S2 _ (.tup upd_same (dps_mono st2.ex _ _ hd))
    · exact k.elim
  · exact k.elim

/-! ### slices -/
def fPart (f : M R) : M (Option Int) := bnd f fun r s => match look r s with
  | some (.int i) => .ok (some i) s
  | _ => .stuck
def fNoPart : M (Option Int) := ret none
def tP (K : PySem.W.Frag) (cl : String → Addr) (W : WX) (f : M (Option Int)) : TO := fun σ H Q => ∃ G s, SA K G s σ H ∧ Out K cl W G s σ H (f s) fun o _ _ H' => Q o H'
theorem po_imp {o : Option Expr} {t t' : TO} (h : PO X o t) (i : ∀ σ H Q, t' σ H Q → t σ H Q) : PO X o t' := ⟨fun pins s σ H Q I q => h.run pins s σ H Q I (i σ H Q q)⟩
abbrev DP (X : Cx) (cl : String → Addr) (W : WX) (o : Option Expr) (f : M (Option Int)) : Prop := PO X o (tP X.K cl W f)
theorem dp_none : DP X cl W none fNoPart := po_imp po_none fun σ H Q ⟨G, s, S, q⟩ => q G H Stp.refl S
theorem dp_some (h : DE X cl W e f) : DP X cl W (some e) (fPart f) := po_imp (po_some h) fun σ H Q ⟨G, s, S, q⟩ => by
  refine ⟨G, s, S, out_mono (out_bind q) fun r G1 s1 H1 st S1 k v rr => ?_⟩
  split at k
  · rename_i i e
    obtain rfl := dq_int (look_q S1 rr e)
    exact ⟨i, rfl, k G1 H1 Stp.refl S1⟩
  · exact k.elim
def cutD (xs : List PyData) (lo hi : Option Int) : List PyData := (xs.drop (HT.sIx xs.length 0 lo)).take (HT.sIx xs.length xs.length hi - HT.sIx xs.length 0 lo)
def sliceO (d : PyData) (lo hi : Option Int) : Option R := match d with
  | .list xs => some (.new (cutD xs lo hi))
  | .tuple xs => some (.val (.tuple (cutD xs lo hi)))
  | _ => none
def fSlice (f : M R) (l h : M (Option Int)) : M R := bnd f fun x => bnd l fun lo => bnd h fun hi s => match look x s with
  | some d => match sliceO d lo hi with
    | some (.slot _) => .stuck
    | some r => .ok r s
    | none => .stuck
  | none => .stuck
theorem cut_rp {K : PySem.W.Frag} {G : Hp} {xs : List V} {ds : List PyData} {lo hi : Option Int} (h : RpAll K G xs ds) : RpAll K G (cutV xs lo hi) (cutD ds lo hi) := by
  unfold cutV cutD
  rw [dps_len h]
  exact dps_take _ (dps_drop _ h)
theorem d_slice {lo hi : Option Expr} {l h : M (Option Int)} {p2 : Pos} (ha : DE X cl W e f) (hl : DP X cl W lo l) (hh : DP X cl W hi h) : DE X cl W (.Subscript e (.Slice lo hi none p2) pos) (fSlice f l h) := by
  refine pe_imp (pe_slice (sl_list.or sl_tupA) ha hl hh) fun σ H Q ⟨G, s, S, q⟩ => ?_
  refine ⟨G, s, S, out_mono (out_bind q) fun x G1 s1 H1 st1 S1 q1 v1 r1 => ⟨G1, s1, S1, ?_⟩⟩
  refine out_mono (out_bind q1) fun lo G2 s2 H2 st2 S2 q2 => ⟨G2, s2, S2, ?_⟩
  refine out_mono (out_bind q2) fun hi G3 s3 H3 st3 S3 q3 => ?_
  have r3 := (r1.mono st2).mono st3
  split at q3
  · rename_i d e
    have hd := look_q S3 r3 e
    split at q3
    · exact q3.elim
    · rename_i r ns ho
      have an := ans_of S3 ((st1.trans st2).trans st3).dom (fun i z => ns i z) q3
      unfold sliceO at ho
      split at ho
      · cases ho
        obtain ⟨p, xs, rfl, hp, hpx⟩ := dq_lst hd
        exact .inl ⟨p, xs, rfl, .of hp, fun l hl => an l _ hl (cut_rp hpx)⟩
      · rename_i ds
        cases ho
        obtain ⟨p, xs, rfl, hp, hpx, h1⟩ := dq_tup S3.gh hd
        refine .inr ⟨p, xs, rfl, hp, fun ⟨z1, z2⟩ => ?_, fun _ l hl => an.2 _ l _ rfl hl (cut_rp hpx)⟩
        refine an.1 _ ?_
        have e1 : cutD ds lo hi = ds := by
          unfold cutD
          rw [← dps_len hpx, z1, z2, dps_len hpx]
          simp
        rw [e1]
        exact h1
      · cases ho
    · exact q3.elim
  · exact q3.elim
def revO : PyData → Option R
  | .list xs => some (.new xs.reverse)
  | _ => none
def fUn (o : R → M R) (f : M R) : M R := bnd f o
def negO : PyData → Option R
  | .int i => some (.val (.int (-i)))
  | _ => none
theorem d_neg (ha : DE X cl W e f) : DE X cl W (.UnaryOp .USub e pos) (fUn (lift1 negO) f) := by
  refine pe_imp (pe_un un_neg ha) fun σ H Q ⟨G, s, S, q⟩ => ?_
  refine ⟨G, s, S, out_mono (out_bind q) fun x G1 s1 H1 st1 S1 q1 v1 r1 => ?_⟩
  unfold lift1 at q1
  split at q1
  · rename_i d e
    have hd := look_q S1 r1 e
    split at q1
    · exact q1.elim
    · rename_i r ns ho
      have an := ans_of S1 st1.dom (fun i z => ns i z) q1
      unfold negO at ho
      split at ho
      · cases ho
        obtain rfl := dq_int hd
        exact ⟨_, rfl, an.1 _ (.int _)⟩
      · cases ho
    · exact q1.elim
  · exact q1.elim
def isNR (r : R) (s : DSt) : Option Bool := match r with
  | .raw v => some (decide (v = .non))
  | .ob _ => some false
  | r => match look r s with
    | some .none => some true
    | some _ => some false
    | none => none
def fIsN (neg : Bool) (f : M R) : M R := bnd f fun r s => match isNR r s with
  | some b => .ok (.val (.bool (if neg then !b else b))) s
  | none => .stuck
theorem isNR_ok {K : PySem.W.Frag} {H0 G H : Hp} {s : DSt} {σ : L2.St} {v : V} {r : R} {b : Bool} (S : SA K G s σ H) (h : RRel K H0 G s σ H v r) (e : isNR r s = some b) : decide (v = .non) = b := by
  have go : ∀ d, Dq K G H v d → (match some d with | some PyData.none => some true | some _ => some false | none => none) = some b → decide (v = .non) = b := by
    intro d hd e
    cases d with
    | none => cases e; cases (show Rp K G v .none from hd); rfl
    | bool x => cases e; cases (show Rp K G v (.bool x) from hd); rfl
    | int x => cases e; cases (show Rp K G v (.int x) from hd); rfl
    | str x => cases e; cases (show Rp K G v (.str x) from hd); rfl
    | list x => cases e; obtain ⟨a, xs, rfl, _⟩ := dq_lst hd; rfl
    | tuple x => cases e; cases (show Rp K G v (.tuple x) from hd) <;> rfl
    | dict x => cases (show Rp K G v (.dict x) from hd)
  unfold isNR at e
  split at e
  · cases e
    have h : v = _ := h
    rw [h]
  · cases e
    rename_i o
    cases o with
    | dict kvs => obtain ⟨a, vs, rfl, _⟩ := h; rfl
    | dictT kvs => obtain ⟨a, vs, rfl, _⟩ := h; rfl
    | exc x => obtain ⟨a, d, rfl, _⟩ := h; rfl
    | set S n => obtain ⟨a, rfl, _⟩ := h; rfl
    | scr ns => obtain ⟨a, rfl, _⟩ := h; rfl
    | excs n is => obtain ⟨a, vs, rfl, _⟩ := h; rfl
  · split at e
    · rename_i q; exact go _ (look_q S h q) e
    · rename_i d _ q
      refine go d (look_q S h q) ?_
      rw [← e]
      split
      · rename_i z _ w; exact absurd (Option.some.inj w) (by assumption)
      · rfl
      · rename_i w; cases w
    · cases e
theorem is_reads {rl : TE → TE} (neg : Bool) (hf : ∀ te σ H Q, te σ H (fun x H1 => Q (.bl (if neg then !decide (x = V.non) else decide (x = V.non))) H1) → rl te σ H Q) {K : PySem.W.Frag} {σ : L2.St} {H : Hp} {Q : VK} (q : tD K cl W (fIsN neg f) σ H Q) : rl (tD K cl W f) σ H Q := by
  obtain ⟨G, s, S, q⟩ := q
  refine hf _ _ _ _ ⟨G, s, S, out_mono (out_bind q) fun x G1 s1 H1 st1 S1 q1 v1 r1 => ?_⟩
  split at q1
  · rename_i b e
    have z := isNR_ok S1 r1 e
    have an := q1 G1 H1 Stp.refl S1 (.bl (if neg then !b else b)) (.bl _)
    rw [← z] at an
    exact an
  · exact q1.elim
theorem t_isN {j pos'} (ha : DE X cl W a f) : DT X cl W (.Compare a [.Is] [.Constant .none j pos'] pos) (fB (fIsN false f)) := pt_imp (pt_cmp (pc_isN ha) rfl) fun σ H Q q => is_reads (rl := tIsN) false (fun _ _ _ _ h => h) (test_of q)
theorem t_lt (ha : DE X cl W a f) (hb : DE X cl W b g) : DT X cl W (.Compare a [.Lt] [b] pos) (fB (fOp (lift2 ltO) f g)) := d_opT (fun h1 h2 => pt_cmpR op_lt h1 h2 (nomark _)) (ops_lift opd_lt) ha hb
theorem t_le (ha : DE X cl W a f) (hb : DE X cl W b g) : DT X cl W (.Compare a [.LtE] [b] pos) (fB (fOp (lift2 leO) f g)) := d_opT (fun h1 h2 => pt_cmpR op_le h1 h2 (nomark _)) (ops_lift opd_le) ha hb
theorem t_gt (ha : DE X cl W a f) (hb : DE X cl W b g) : DT X cl W (.Compare a [.Gt] [b] pos) (fB (fOp (lift2 gtO) f g)) := d_opT (fun h1 h2 => pt_cmpR op_gt h1 h2 (nomark _)) (ops_lift opd_gt) ha hb
theorem t_ge (ha : DE X cl W a f) (hb : DE X cl W b g) : DT X cl W (.Compare a [.GtE] [b] pos) (fB (fOp (lift2 geO) f g)) := d_opT (fun h1 h2 => pt_cmpR op_ge h1 h2 (nomark _)) (ops_lift opd_ge) ha hb
theorem t_eq (hu : X.A.units + 64 < cLine) (ha : DE X cl W a f) (hb : DE X cl W b g) : DT X cl W (.Compare a [.Eq] [b] pos) (fB (fOp (lift2 eqO) f g)) := d_opT (fun h1 h2 => pt_cmpR (op_eqP hu) h1 h2 (nomark _)) (ops_lift opd_eq) ha hb
theorem t_ne (hu : X.A.units + 64 < cLine) (ha : DE X cl W a f) (hb : DE X cl W b g) : DT X cl W (.Compare a [.NotEq] [b] pos) (fB (fOp (lift2 neO) f g)) := d_opT (fun h1 h2 => pt_cmpR (op_neP hu) h1 h2 (nomark _)) (ops_lift opd_ne) ha hb
theorem t_in (hu : X.A.units + 64 < cLine) (hm : behindInMarks .In b = false) (ha : DE X cl W a f) (hb : DE X cl W b g) : DT X cl W (.Compare a [.In] [b] pos) (fB (fOp (lift2 inO) f g)) := d_opT (fun h1 h2 => pt_cmpR (op_inP hu) h1 h2 hm) (ops_lift opd_in) ha hb
end
end DL

/-! DL6: statements, loops -/
noncomputable section
namespace DL
open PySem L2 PyProof.Rows
open Evl (Ex)
/-! ### a slot is set -/
def putS (i : Nat) (x : Sl) (s : DSt) : DSt := { s with d := s.d.set i x }
def store (i : Nat) (r : R) (s : DSt) : Option DSt := match r with
  | .val d => some (putS i (.val d) s)
  | .raw v => some (putS i (.raw v) s)
  | .ob o => some (putS i (.ob o) s)
  | .new ds => some (putS i (.own ds) s)
  | .slot j => match s.d[j]? with
    | some (.own ds) => some (putS i (.val (.list ds)) (putS j (.val (.list ds)) s))
    | some (.val d) => some (putS i (.val d) s)
    | _ => none
section
variable {K : PySem.W.Frag} {G H G0 H0 : Hp} {s s0 : DSt} {σ σ0 : L2.St}
theorem own_put {i j : Nat} {x : Sl} {v : V} {a : Addr} (hi : i < s.d.length) (hl : s.d.length = σ.length) : OwnAt (putS i x s) (σ.set i (some v)) j a → (j = i ∧ (∃ ds, x = .own ds) ∧ v = .ref a) ∨ (j ≠ i ∧ OwnAt s σ j a) := by
  rintro ⟨⟨ds, e⟩, h⟩
  by_cases q : j = i
  · subst q
    unfold putS at e
    simp only [List.getElem?_set_self hi] at e
    rw [List.getElem?_set_self (by omega)] at h
    cases e
    cases h
    exact .inl ⟨rfl, ⟨ds, rfl⟩, rfl⟩
  · unfold putS at e
    simp only [List.getElem?_set_ne (Ne.symm q)] at e
    rw [List.getElem?_set_ne (Ne.symm q)] at h
    exact .inr ⟨q, ⟨ds, e⟩, h⟩
theorem put_ok {i : Nat} {x : Sl} {v : V} (S : SA K G s σ H) (hi : i < s.d.length) (hx : SlOk K G H (some v) x) (ho : ∀ ds a, x = .own ds → v = .ref a → G a = none ∧ ¬ POwn s.w a ∧ ∀ j, j ≠ i → ¬ OwnAt s σ j a) : SA K G (putS i x s) (σ.set i (some v)) H := by
  refine ⟨by simp [putS, S.len], S.gh, fun j sl h => ?_, fun j k a h1 h2 => ?_, fun j a h => ?_, S.pw, fun j a h => ?_⟩
  · by_cases q : j = i
    · subst q
      simp only [putS, List.getElem?_set_self hi] at h
      cases h
      rw [List.getElem?_set_self (by rw [← S.len]; exact hi)]
      exact hx
    · simp only [putS, List.getElem?_set_ne (Ne.symm q)] at h
      rw [List.getElem?_set_ne (Ne.symm q)]
      exact S.slot j sl h
  · rcases own_put hi S.len h1 with ⟨e1, ⟨ds, e2⟩, e3⟩ | ⟨e1, h1⟩ <;> rcases own_put hi S.len h2 with ⟨f1, ⟨es, f2⟩, f3⟩ | ⟨f1, h2⟩
    · rw [e1, f1]
    · exact absurd h2 ((ho ds a e2 e3).2.2 k f1)
    · exact absurd h1 ((ho es a f2 f3).2.2 j e1)
    · exact S.inj j k a h1 h2
  · rcases own_put hi S.len h with ⟨e1, ⟨ds, e2⟩, e3⟩ | ⟨e1, h1⟩
    · exact (ho ds a e2 e3).1
    · exact S.ownG j a h1
  · rcases own_put hi S.len h with ⟨e1, ⟨ds, e2⟩, e3⟩ | ⟨e1, h1⟩
    · exact (ho ds a e2 e3).2.1
    · exact S.pne j a h1
theorem put_stp {i : Nat} {x : Sl} {v : V} (S : SA K G s σ H) (st : Stp G0 s0 σ0 H0 G s σ H) (hi : i < s.d.length) (ho : ∀ ds a, x = .own ds → v = .ref a → H0 a = none ∨ Own s σ a) : Stp G0 s0 σ0 H0 G (putS i x s) (σ.set i (some v)) H := by
  refine ⟨st.ex, st.keep, fun a z => ?_, st.dom, st.pw⟩
  rcases z with ⟨j, z⟩ | z
  · rcases own_put hi S.len z with ⟨e1, ⟨ds, e2⟩, e3⟩ | ⟨e1, h1⟩
    · rcases ho ds a e2 e3 with q | q
      · exact .inr q
      · exact st.own a q
    · exact st.own a (.inl ⟨j, h1⟩)
  · exact st.own a (.inr z)
theorem store_good {i : Nat} {r : R} {v : V} {s' : DSt} (S : SA K G s σ H) (st : Stp G0 s0 σ0 H0 G s σ H) (h : RRel K H0 G s σ H v r) (hi : i < s.d.length) (e : store i r s = some s') :
    ∃ G', Stp G0 s0 σ0 H0 G' s' (σ.set i (some v)) H ∧ SA K G' s' (σ.set i (some v)) H ∧ Ex G G' := by
  cases r with
  | val d => cases e; exact ⟨G, put_stp S st hi (by intro _ _ z; cases z), put_ok S hi ⟨v, rfl, h⟩ (by intro _ _ z; cases z), Ex.refl G⟩
  | ob o => cases e; exact ⟨G, put_stp S st hi (by intro _ _ z; cases z), put_ok S hi ⟨v, rfl, h⟩ (by intro _ _ z; cases z), Ex.refl G⟩
  | raw u =>
    cases e
    have h : v = u := h
    subst h
    exact ⟨G, put_stp S st hi (by intro _ _ z; cases z), put_ok S hi rfl (by intro _ _ z; cases z), Ex.refl G⟩
  | new ds =>
    cases e
    obtain ⟨a, xs, rfl, ha, hd, hg, h0, hn⟩ := h
    refine ⟨G, put_stp S st hi (fun es b z1 z2 => ?_), put_ok S hi ⟨a, xs, rfl, ha, hd⟩ (fun es b z1 z2 => ?_), Ex.refl G⟩
    · cases z2; exact .inl h0
    · cases z2; exact ⟨hg, fun z => hn (.inr z), fun j _ z => hn (.inl ⟨j, z⟩)⟩
  | slot j =>
    simp only [store] at e
    split at e
    · rename_i ds q
      cases e
      obtain ⟨a, xs, e1, ha, st', S', rp⟩ := slot_known S q
      have h' : σ[j]? = some (some v) := h
      rw [e1] at h'
      cases h'
      have hi' : i < ({ s with d := s.d.set j (.val (.list ds)) } : DSt).d.length := by simpa using hi
      exact ⟨_, put_stp S' (st.trans st') hi' (by intro _ _ z; cases z), put_ok S' hi' ⟨_, rfl, rp⟩ (by intro _ _ z; cases z), st'.ex⟩
    · rename_i d q
      cases e
      have h' : σ[j]? = some (some v) := h
      obtain ⟨u, e1, hd⟩ := S.slot j _ q
      rw [h'] at e1
      cases e1
      exact ⟨G, put_stp S st hi (by intro _ _ z; cases z), put_ok S hi ⟨v, rfl, hd⟩ (by intro _ _ z; cases z), Ex.refl G⟩
    · cases e
end
/-! ### flows -/
def fseq (f g : DSt → Flow) : DSt → Flow := fun s => match f s with
  | .next s' => g s'
  | x => x
def fnext : DSt → Flow := fun s => .next s
section
variable {K : PySem.W.Frag} {cl : String → Addr} {W : WX} {G H G' H' : Hp} {s s' : DSt} {σ σ' : L2.St}
theorem fout_shift {fl : Flow} {D : Ends} (st : Stp G s σ H G' s' σ' H') (h : FOut K cl W G s σ H fl D) : FOut K cl W G' s' σ' H' fl D := by
  cases fl with
  | next s2 => exact fun G2 σ2 H2 st2 S2 => h G2 σ2 H2 (st.trans st2) S2
  | brk s2 => exact fun G2 σ2 H2 st2 S2 => h G2 σ2 H2 (st.trans st2) S2
  | cnt s2 => exact fun G2 σ2 H2 st2 S2 => h G2 σ2 H2 (st.trans st2) S2
  | ret r s2 => exact fun v G2 σ2 H2 st2 S2 rr => h v G2 σ2 H2 (st.trans st2) S2 (rr.less st.dom)
  | err x s2 => exact fun c d G2 σ2 H2 st2 S2 xr => h c d G2 σ2 H2 (st.trans st2) S2 xr
  | stuck => exact h
def onRes {α : Type} (r : Res α) (g : α → DSt → Flow) : Flow := match r with
  | .ok a s => g a s
  | .err x s => .err x s
  | .stuck => .stuck
theorem fout_res {α : Type} {r : Res α} {g : α → DSt → Flow} {D : Ends} (h : FOut K cl W G s σ H (onRes r g) D) : Out K cl W G s σ H r fun a G1 s1 H1 => FOut K cl W G s σ H (g a s1) D := by
  cases r with
  | ok a s1 => exact fun G1 H1 st S1 => h
  | err x s1 => exact fun c d G1 H1 st S1 xr => h c d G1 σ H1 st S1 xr
  | stuck => exact h
end
section
variable {X : Cx} {cl : String → Addr} {W : WX} {e a b c : Expr} {es : List Expr} {f g : M R} {fs : M (List R)} {pos : Pos} {st : Stmt} {rest : List Stmt} {p q : DSt → Flow}
theorem ss_nil : DSs X cl W [] fnext := pss_imp pss_nil fun D σ H ⟨G, s, S, h⟩ => h G σ H Stp.refl S
theorem ss_cons (h1 : DS X cl W st p) (h2 : DSs X cl W rest q) : DSs X cl W (st :: rest) (fseq p q) := by
  refine pss_imp (pss_cons h1 h2) fun D σ H ⟨G, s, S, h⟩ => ⟨G, s, S, ?_⟩
  unfold fseq at h
  cases z : p s with
  | next s' =>
    rw [z] at h
    exact fun G1 σ1 H1 st1 S1 => ⟨G1, s', S1, fout_shift st1 h⟩
  | brk s' => rw [z] at h; exact h
  | cnt s' => rw [z] at h; exact h
  | ret r s' => rw [z] at h; exact h
  | err x s' => rw [z] at h; exact h
  | stuck => rw [z] at h; exact h
theorem ss_one (h1 : DS X cl W st p) : DSs X cl W [st] p := pss_one h1
def fbrk : DSt → Flow := fun s => .brk s
def fcnt : DSt → Flow := fun s => .cnt s
def fnever : DSt → Flow := fun _ => .stuck
def fDrop (f : M R) : DSt → Flow := fun s => onRes (f s) fun _ s' => .next s'
theorem s_expr (h : DE X cl W e f) (hs : swapsWith e none pos.line X.env = pure false := by rfl) : DS X cl W (.Expr e pos) (fDrop f) := by
  refine ps_imp (ps_expr h hs) fun D σ H ⟨G, s, S, h⟩ => ⟨G, s, S, out_mono (fout_res h) fun r G1 s1 H1 st1 S1 k v rr => ?_⟩
  exact k G1 σ H1 st1 S1
def fRet (f : M R) : DSt → Flow := fun s => onRes (f s) fun r s' => .ret r s'
theorem s_ret (h : DE X cl W e f) : DS X cl W (.Return (some e) pos) (fRet f) := by
  refine ps_imp (ps_ret h) fun D σ H ⟨G, s, S, h⟩ => ⟨G, s, S, out_mono (fout_res h) fun r G1 s1 H1 st1 S1 k v rr => ?_⟩
  exact k v G1 σ H1 st1 S1 rr
def fRetN : DSt → Flow := fun s => .ret (.val .none) s
def fIfS (c : M Bool) (p q : DSt → Flow) : DSt → Flow := fun s => onRes (c s) fun b s' => if b then p s' else q s'
theorem s_if {c : Expr} {t : M Bool} {as bs : List Stmt} (hc : DT X cl W c t) (ha : DSs X cl W as p) (hb : DSs X cl W bs q) : DS X cl W (.If c as bs pos) (fIfS t p q) := by
  refine ps_imp (ps_if hc ha hb) fun D σ H ⟨G, s, S, h⟩ => ⟨G, s, S, out_mono (fout_res h) fun b G1 s1 H1 st1 S1 k => ?_⟩
  cases b with
  | true => exact ⟨G1, s1, S1, fout_shift st1 k⟩
  | false => exact ⟨G1, s1, S1, fout_shift st1 k⟩
def fSet (i : Nat) (f : M R) : DSt → Flow := fun s => onRes (f s) fun r s' => if i < s'.d.length then match store i r s' with
  | some s2 => .next s2
  | none => .stuck
  else .stuck
theorem set_reads {i : Nat} {D : Ends} {σ : L2.St} {H : Hp} {K : PySem.W.Frag} (q : tS K cl W (fSet i f) D σ H) : tAsg (tD K cl W f) (gName i) D σ H := by
  obtain ⟨G, s, S, h⟩ := q
  refine ⟨G, s, S, out_mono (fout_res h) fun r G1 s1 H1 st1 S1 k v rr => ?_⟩
  split at k
  · rename_i hi
    split at k
    · rename_i s2 e
      obtain ⟨G2, st2, S2, _⟩ := store_good S1 st1 rr hi e
      exact k G2 _ H1 st2 S2
    · exact k.elim
  · exact k.elim
theorem s_set {i : Nat} {x : Str} {pos' : Pos} (hN : X.N.Nodup) (hi : X.N[i]? = some x) (hx : Loc X.env.scope x) (he : DE X cl W e f) (hs : swapsWith e (some (.Name x pos')) pos.line X.env = pure false := by rfl) (hf : X.fn x = true ∨ X.env.scope.names.lookup x = some .local := by first | exact .inl rfl | exact .inr rfl | assumption) :
    DS X cl W (.Assign [.Name x pos'] e pos) (fSet i f) := ps_imp (ps_set hN hi hx he hs hf) fun D σ H q => set_reads q
end
end DL

/-! DL7: targets, what is walked, loops, comprehensions -/
noncomputable section
namespace DL
open PySem L2 PyProof.Rows
open Evl (Ex)
/-! ### targets -/
abbrev Bd := PyData → DSt → Option DSt
def GOk (K : PySem.W.Frag) (g : TG) (b : Bd) (js : List Nat) : Prop := ∀ (x : V) (d : PyData) (G : Hp) (s : DSt) (σ : L2.St) (H : Hp) (s' : DSt) (Q : L2.St → Hp → Prop), SA K G s σ H → Rp K G x d → b d s = some s' →
  (∀ σ', σ'.length = σ.length → (∀ i, i ∉ js → σ'[i]? = σ[i]?) → (∀ i : Nat, i ∉ js → s'.d[i]? = s.d[i]?) → s'.w = s.w → Stp G s σ H G s' σ' H → SA K G s' σ' H → Q σ' H) → g x σ H Q
def bName (i : Nat) : Bd := fun d s => if i < s.d.length then some (putS i (.val d) s) else none
theorem g_name {K : PySem.W.Frag} (i : Nat) : GOk K (gName i) (bName i) [i] := by
  intro x d G s σ H s' Q S rp e k
  unfold bName at e
  split at e
  · rename_i hi
    cases e
    refine k _ (by simp) (fun j hj => ?_) (fun j hj => ?_) rfl (put_stp S Stp.refl hi (by intro _ _ z; cases z)) (put_ok S hi ⟨x, rfl, rp⟩ (by intro _ _ z; cases z))
    · rw [List.getElem?_set_ne (fun z => hj (by simp [z]))]
    · simp only [putS]
      rw [List.getElem?_set_ne (fun z => hj (by simp [z]))]
  · cases e
abbrev Bds := List PyData → DSt → Option DSt
def GsOk (K : PySem.W.Frag) (g : TGs) (b : Bds) (js : List Nat) : Prop := ∀ (xs : List V) (ds : List PyData) (G : Hp) (s : DSt) (σ : L2.St) (H : Hp) (s' : DSt) (Q : L2.St → Hp → Prop), SA K G s σ H → RpAll K G xs ds → b ds s = some s' →
  (∀ σ', σ'.length = σ.length → (∀ i, i ∉ js → σ'[i]? = σ[i]?) → (∀ i : Nat, i ∉ js → s'.d[i]? = s.d[i]?) → s'.w = s.w → Stp G s σ H G s' σ' H → SA K G s' σ' H → Q σ' H) → g xs σ H Q
def bNil : Bds := fun ds s => match ds with
  | [] => some s
  | _ => none
def bCons (b : Bd) (bs : Bds) : Bds := fun ds s => match ds with
  | d :: r => match b d s with
    | some s' => bs r s'
    | none => none
  | [] => none
theorem g_nil {K : PySem.W.Frag} : GsOk K gNil bNil [] := by
  intro xs ds G s σ H s' Q S rp e k
  unfold bNil at e
  split at e
  · cases e
    cases rp
    exact ⟨rfl, k σ rfl (fun _ _ => rfl) (fun _ _ => rfl) rfl Stp.refl S⟩
  · cases e
theorem g_cons {K : PySem.W.Frag} {g : TG} {gs : TGs} {b : Bd} {bs : Bds} {js ks : List Nat} (h1 : GOk K g b js) (h2 : GsOk K gs bs ks) : GsOk K (gCons g gs) (bCons b bs) (js ++ ks) := by
  intro xs ds G s σ H s' Q S rp e k
  unfold bCons at e
  split at e
  · rename_i d r
    split at e
    · rename_i s1 e1
      cases rp with
      | cons rp1 rp2 =>
        refine ⟨_, _, rfl, h1 _ d G s σ H s1 _ S rp1 e1 fun σ1 l1 n1 m1 w1 st1 S1 => ?_⟩
        refine h2 _ r G s1 σ1 H s' _ S1 rp2 e fun σ2 l2 n2 m2 w2 st2 S2 => ?_
        exact k σ2 (l2.trans l1) (fun i hi => (n2 i fun z => hi (List.mem_append_right _ z)).trans (n1 i fun z => hi (List.mem_append_left _ z))) (fun i hi => (m2 i fun z => hi (List.mem_append_right _ z)).trans (m1 i fun z => hi (List.mem_append_left _ z))) (w2.trans w1) (st1.trans st2) S2
    · cases e
  · cases e
def bTup (n : Nat) (bs : Bds) : Bd := fun d s => match d with
  | .tuple ds => if ds.length = n then bs ds s else none
  | _ => none
theorem g_tup {K : PySem.W.Frag} {n : Nat} {gs : TGs} {bs : Bds} {js : List Nat} (h : GsOk K gs bs js) : GOk K (gTup K n gs) (bTup n bs) js := by
  intro x d G s σ H s' Q S rp e k
  unfold bTup at e
  split at e
  · split at e
    · rename_i ds hl
      cases rp with
      | tup hs ha => exact ⟨_, _, rfl, .of (S.gh _ _ hs), by rw [dps_len ha]; exact hl, h _ ds G s σ H s' Q S ha e k⟩
      | ktup hs ha => exact ⟨_, _, rfl, hs.sq, by rw [dps_len ha]; exact hl, h _ ds G s σ H s' Q S ha e k⟩
    · cases e
  · cases e
def bUnl (n : Nat) (bs : Bds) : Bd := fun d s => match d with
  | .list ds => if ds.length = n then bs ds s else none
  | _ => none
/-! ### what is walked -/
def ItOk (K : PySem.W.Frag) (J : It) (ds : List PyData) (G : Hp) : Prop := ∀ (G' : Hp) (s' : DSt) (σ' : L2.St) (H' : Hp), Ex G G' → SA K G' s' σ' H' → ∀ i,
  (∀ d, ds[i]? = some d → J.go i H' ∧ ∀ x H2, J.yld i H' x H2 → ∃ G2, Stp G' s' σ' H' G2 s' σ' H2 ∧ SA K G2 s' σ' H2 ∧ Rp K G2 x d) ∧ (ds.length ≤ i → J.stop i H')
def tI (K : PySem.W.Frag) (cl : String → Addr) (W : WX) (f : M (List PyData)) : TI := fun σ H R => ∃ G s, SA K G s σ H ∧ Out K cl W G s σ H (f s) fun ds G' s' H' => ∀ J, ItOk K J ds G' → R J H'
section
variable {X : Cx} {cl : String → Addr} {W : WX} {e a b c tg iter : Expr} {es : List Expr} {f g : M R} {fs : M (List R)} {fi : M (List PyData)} {pos : Pos}
abbrev DI (X : Cx) (cl : String → Addr) (W : WX) (tg e : Expr) (f : M (List PyData)) : Prop := PI X tg e (tI X.K cl W f)
theorem pi_imp {t t' : TI} (h : PI X tg e t) (i : ∀ σ H R, t' σ H R → t σ H R) : PI X tg e t' := ⟨fun pins s σ H R I q => h.run pins s σ H R I (i σ H R q)⟩
theorem it_list {K : PySem.W.Frag} {G : Hp} {a : Addr} {xs : List V} {ds : List PyData} (h : G a = some (.lst xs)) (hd : RpAll K G xs ds) (uq : ∀ (G' : Hp) (s' : DSt) (σ' : L2.St) (H' : Hp), Ex G G' → SA K G' s' σ' H' → H' a = some (.lst xs)) : ItOk K (Itl K a) ds G := by
  intro G' s' σ' H' ex S i
  have hH := uq G' s' σ' H' ex S
  refine ⟨fun d e => ?_, fun hl => ⟨xs, .of hH, by rw [dps_len hd]; exact hl⟩⟩
  have hi : i < xs.length := by rw [dps_len hd]; exact (List.getElem?_eq_some_iff.mp e).1
  refine ⟨⟨xs, xs[i], .of hH, by simp [hi]⟩, fun x H2 ⟨e2, y⟩ => ?_⟩
  subst e2
  obtain ⟨d', e', r⟩ := dps_get hd (y xs (.of hH))
  rw [e] at e'
  cases e'
  exact ⟨G', Stp.refl, S, dp_mono ex _ _ r⟩
theorem it_tup {K : PySem.W.Frag} {G : Hp} {a : Addr} {xs : List V} {ds : List PyData} (h : SqT K G a xs) (hd : RpAll K G xs ds) : ItOk K (Itt K a) ds G := by
  intro G' s' σ' H' ex S i
  have hH := Evl.ex_t S.gh (Evl.ex_t ex h)
  refine ⟨fun d e => ?_, fun hl => ⟨xs, hH, by rw [dps_len hd]; exact hl⟩⟩
  have hi : i < xs.length := by rw [dps_len hd]; exact (List.getElem?_eq_some_iff.mp e).1
  refine ⟨⟨xs, xs[i], hH, by simp [hi]⟩, fun x H2 ⟨e2, y⟩ => ?_⟩
  subst e2
  obtain ⟨d', e', r⟩ := dps_get hd (y xs hH)
  rw [e] at e'
  cases e'
  exact ⟨G', Stp.refl, S, dp_mono ex _ _ r⟩
def iSeq (K : PySem.W.Frag) (tl : TE) : TI := fun σ H R => tl σ H fun x H1 => (∃ a, x = .ref a ∧ (∃ xs, SqL K H1 a xs) ∧ R (Itl K a) H1) ∨ ∃ a, x = .ref a ∧ (∃ xs, SqT K H1 a xs) ∧ R (Itt K a) H1
theorem pi_seq {l : Expr} {tl : TE} (hl : PE X l tl) : PI X tg l (iSeq X.K tl) := by
  refine ⟨fun pins s σ H R I h => ?_⟩
  refine thn (hl.run pins s σ H _ I h) fun v s1 ⟨x, H1, I1, r1, q1⟩ => ?_
  rcases q1 with ⟨a, e, ⟨xs, hq⟩, q⟩ | ⟨a, e, ⟨xs, hq⟩, q⟩
  · subst e
    cases r1
    obtain ⟨its, rv, p, hz⟩ := I1.list hq
    refine wpAny_pyIter_list p.isList ?_
    refine ⟨s1.heap.objs.size, [s1.heap.objs.size], _, _, H1, rfl, I1.kept (t' := s1.toks) fun b o e => Heap.get?_push_of_some _ e, turn_list a _, ⟨_, Heap.get?_push_size _ rfl, rfl, rfl⟩, fun b hb => ?_, q⟩
    have e : b = s1.heap.objs.size := by simpa using hb
    subst e
    exact I1.fpOk (Nat.le_refl _) (I1.hok.fresh (Nat.le_refl _))
  · subst e
    cases r1
    obtain ⟨its, rv, p, hz⟩ := I1.tuple hq
    refine wpAny_pyIter_tuple (show s1.heap.IsTuple a its.toArray from p) ?_
    refine ⟨s1.heap.objs.size, [s1.heap.objs.size], _, _, H1, rfl, I1.kept (t' := s1.toks) fun b o e => Heap.get?_push_of_some _ e, turn_tuple a _, ⟨_, Heap.get?_push_size _ rfl, rfl, rfl⟩, fun b hb => ?_, q⟩
    have e : b = s1.heap.objs.size := by simpa using hb
    subst e
    exact I1.fpOk (Nat.le_refl _) (I1.hok.fresh (Nat.le_refl _))
def fLstI (f : M R) : M (List PyData) := bnd f fun r => bnd (fEsc r) fun r' s => match r' with
  | .val (.list ds) => .ok ds s
  | .val (.tuple ds) => .ok ds s
  | _ => .stuck
theorem i_list (h : DE X cl W e f) : DI X cl W tg e (fLstI f) := by
  refine pi_imp (pi_seq h) fun σ H R ⟨G, s, S, q⟩ => ?_
  refine ⟨G, s, S, out_mono (out_esc q) fun r G1 s1 H1 st1 S1 k v rr => ?_⟩
  obtain ⟨G2, s2, r2, st2, S2, ar, ex, k2⟩ := k v rr
  split at k2
  · rename_i ds
    cases (show Rp X.K G2 v (.list ds) from ar) with
    | lst hs ha => exact .inl ⟨_, rfl, ⟨_, .of (S2.gh _ _ hs)⟩, k2 G2 H1 Stp.refl S2 _ (it_list hs ha fun G' s' σ' H' ex' S' => S'.gh _ _ (ex' _ _ hs))⟩
  · rename_i ds
    cases (show Rp X.K G2 v (.tuple ds) from ar) with
    | tup hs ha => exact .inr ⟨_, rfl, ⟨_, .of (S2.gh _ _ hs)⟩, k2 G2 H1 Stp.refl S2 _ (it_tup (.of hs) ha)⟩
    | ktup hs ha => exact .inr ⟨_, rfl, ⟨_, hs.sq⟩, k2 G2 H1 Stp.refl S2 _ (it_tup hs.sq ha)⟩
  · exact k2.elim
def fTupI (f : M R) : M (List PyData) := bnd f fun r s => match look r s with
  | some (.tuple ds) => .ok ds s
  | _ => .stuck
def rangeD (lo : Int) (n : Nat) : List PyData := (List.range n).map fun (k : Nat) => PyData.int (lo + (k : Int))
theorem it_range {K : PySem.W.Frag} {G : Hp} {lo : Int} {n : Nat} : ItOk K (Itr lo n) (rangeD lo n) G := by
  intro G' s' σ' H' ex S i
  refine ⟨fun d e => ?_, fun hl => show n ≤ i by simpa [rangeD] using hl⟩
  have hi : i < n := by have := (List.getElem?_eq_some_iff.mp e).1; simpa [rangeD] using this
  have e2 : d = .int (lo + (i : Int)) := by simp [rangeD, hi] at e; exact e.symm
  subst e2
  exact ⟨hi, fun x H2 ⟨e1, e3⟩ => by subst e1 e3; exact ⟨G', Stp.refl, S, .int _⟩⟩
def fRng1 (fs : M (List R)) : M (List PyData) := bnd fs fun rs s => match rs with
  | [r] => match look r s with
    | some (.int j) => if inB j then .ok (rangeD 0 j.toNat) s else .stuck
    | _ => .stuck
  | _ => .stuck
theorem i_range1 {p pos : Pos} (hg : Gl X "range") (hm : X.mg "range" = none) (ha : DA X cl W [a] fs) (hs : starEach [a] X.env = [(false, eval a X.env)] := by rfl) : DI X cl W tg (.Call (.Name "range" p) [a] [] pos) (fRng1 fs) := by
  refine pi_imp (pi_range1 hg hm ha hs) fun σ H R ⟨G, s, S, q⟩ => ?_
  refine ⟨G, s, S, out_mono (out_bind q) fun rs G1 s1 H1 st1 S1 k vs rr => ?_⟩
  split at k
  · rename_i r
    split at k
    · rename_i j e
      split at k
      · rename_i hb
        cases rr with
        | cons r1 r2 =>
          cases r2
          obtain rfl := dq_int (look_q S1 r1 e)
          exact ⟨j, rfl, hb.1, hb.2, k G1 H1 Stp.refl S1 _ it_range⟩
      · exact k.elim
    · exact k.elim
  · exact k.elim
def fRng2 (fs : M (List R)) : M (List PyData) := bnd fs fun rs s => match rs with
  | [r, r2] => match look r s, look r2 s with
    | some (.int i), some (.int j) => if inB i ∧ inB j then .ok (rangeD i (j - i).toNat) s else .stuck
    | _, _ => .stuck
  | _ => .stuck
def enumD (ds : List PyData) : List PyData := ds.zipIdx.map fun p => .tuple [.int (p.2 : Int), p.1]
theorem it_enum {K : PySem.W.Frag} {G : Hp} {a : Addr} {xs : List V} {ds : List PyData} (h : G a = some (.lst xs)) (hd : RpAll K G xs ds) : ItOk K (Ite K a) (enumD ds) G := by
  intro G' s' σ' H' ex S i
  have hH : H' a = some (.lst xs) := S.gh _ _ (ex _ _ h)
  refine ⟨fun d e => ?_, fun hl => ⟨xs, .of hH, by rw [dps_len hd]; simpa [enumD] using hl⟩⟩
  have hi : i < ds.length := by have := (List.getElem?_eq_some_iff.mp e).1; simpa [enumD] using this
  have hx : i < xs.length := by rw [dps_len hd]; exact hi
  have e2 : d = .tuple [.int (i : Int), ds[i]] := by
    simp [enumD, hi] at e
    exact e.symm
  subst e2
  refine ⟨⟨xs, xs[i], .of hH, by simp [hx]⟩, fun x H2 ⟨T, y, e3, hT, e4, hy⟩ => ?_⟩
  subst e3 e4
  obtain ⟨d', e', r⟩ := dps_get hd (hy xs (.of hH))
  have e5 : d' = ds[i] := by rw [List.getElem?_eq_getElem hi] at e'; exact (Option.some.inj e').symm
  subst e5
  obtain ⟨st, S2⟩ := new_known (.tup [.int (i : Nat), y]) S hT
  exact ⟨_, st, S2, .tup upd_same (.cons (.int _) (.cons (dp_mono (ex.trans st.ex) _ _ r) .nil))⟩
def fEnum (fs : M (List R)) : M (List PyData) := bnd fs fun rs s => match rs with
  | [.val (.list ds)] => .ok (enumD ds) s
  | _ => .stuck
theorem i_enum {p pos tpos : Pos} {elts : List Expr} {kk : Nat} (hg : Gl X "enumerate") (hm : X.mg "enumerate" = none) (ha : DAe X cl W [e] fs) (hs : starEach [e] X.env = [(false, eval e X.env)] := by rfl) :
    DI X cl W (.Tuple elts kk tpos) (.Call (.Name "enumerate" p) [e] [] pos) (fEnum fs) := by
  refine pi_imp (pi_enum hg hm ha hs) fun σ H R ⟨G, s, S, q⟩ => ?_
  refine ⟨G, s, S, out_mono (out_bind q) fun rs G1 s1 H1 st1 S1 k vs rr => ?_⟩
  split at k
  · rename_i ds
    cases rr with
    | cons r1 r2 =>
      cases r2
      cases (show Rp X.K G1 _ (.list ds) from r1) with
      | lst h ha => exact ⟨_, _, rfl, .of (S1.gh _ _ h), k G1 H1 Stp.refl S1 _ (it_enum h ha)⟩
  · exact k.elim
def zipD (ds es : List PyData) : List PyData := (ds.zip es).map fun p => .tuple [p.1, p.2]
theorem it_zip {K : PySem.W.Frag} {G : Hp} {a b : Addr} {xs ys : List V} {ds es : List PyData} (h : G a = some (.lst xs)) (hd : RpAll K G xs ds) (h2 : G b = some (.lst ys)) (hd2 : RpAll K G ys es) : ItOk K (Itz K a b) (zipD ds es) G := by
  intro G' s' σ' H' ex S i
  have hH : H' a = some (.lst xs) := S.gh _ _ (ex _ _ h)
  have hH2 : H' b = some (.lst ys) := S.gh _ _ (ex _ _ h2)
  refine ⟨fun d e => ?_, fun hl => ⟨xs, ys, .of hH, .of hH2, ?_⟩⟩
  · have hi : i < ds.length ∧ i < es.length := by have := (List.getElem?_eq_some_iff.mp e).1; simp [zipD] at this; omega
    have hx : i < xs.length := by rw [dps_len hd]; exact hi.1
    have hy : i < ys.length := by rw [dps_len hd2]; exact hi.2
    have e2 : d = .tuple [ds[i], es[i]] := by
      have hz : i < (ds.zip es).length := by simp; omega
      simp only [zipD, List.getElem?_map, List.getElem?_eq_getElem hz, Option.map_some, List.getElem_zip] at e
      exact (Option.some.inj e).symm
    subst e2
    refine ⟨⟨xs, ys, xs[i], ys[i], .of hH, .of hH2, by simp [hx], by simp [hy]⟩, fun x H2 ⟨T, y, z, e3, hT, e4, q1, q2⟩ => ?_⟩
    subst e3 e4
    obtain ⟨d', e', r⟩ := dps_get hd (q1 xs (.of hH))
    obtain ⟨d2, e5, r2⟩ := dps_get hd2 (q2 ys (.of hH2))
    have e6 : d' = ds[i] := by rw [List.getElem?_eq_getElem hi.1] at e'; exact (Option.some.inj e').symm
    have e7 : d2 = es[i] := by rw [List.getElem?_eq_getElem hi.2] at e5; exact (Option.some.inj e5).symm
    subst e6 e7
    obtain ⟨st, S2⟩ := new_known (.tup [y, z]) S hT
    exact ⟨_, st, S2, .tup upd_same (.cons (dp_mono (ex.trans st.ex) _ _ r) (.cons (dp_mono (ex.trans st.ex) _ _ r2) .nil))⟩
  · rw [dps_len hd, dps_len hd2]
    simp [zipD] at hl
    omega
def fZip (fs : M (List R)) : M (List PyData) := bnd fs fun rs s => match rs with
  | [.val (.list ds), .val (.list es)] => .ok (zipD ds es) s
  | _ => .stuck
theorem i_zip {e2 : Expr} {p pos tpos : Pos} {elts : List Expr} {kk : Nat} (hg : Gl X "zip") (hm : X.mg "zip" = none) (ha : DAe X cl W [e, e2] fs) (h : ∀ {ta : TA}, PA X [e, e2] ta → PI X (.Tuple elts kk tpos) (.Call (.Name "zip" p) [e, e2] [] pos) (iZip X.K ta) := by intro ta h; exact pi_zip (by rfl) (by assumption) h) :
    DI X cl W (.Tuple elts kk tpos) (.Call (.Name "zip" p) [e, e2] [] pos) (fZip fs) := by
  refine pi_imp (h ha) fun σ H R ⟨G, s, S, q⟩ => ?_
  refine ⟨G, s, S, out_mono (out_bind q) fun rs G1 s1 H1 st1 S1 k vs rr => ?_⟩
  split at k
  · rename_i ds es
    cases rr with
    | cons r1 r2 =>
      cases r2 with
      | cons r2 r3 =>
        cases r3
        cases (show Rp X.K G1 _ (.list ds) from r1) with
        | lst h ha =>
          cases (show Rp X.K G1 _ (.list es) from r2) with
          | lst h' ha' => exact ⟨_, _, _, _, rfl, .of (S1.gh _ _ h), .of (S1.gh _ _ h'), k G1 H1 Stp.refl S1 _ (it_zip h ha h' ha')⟩
  · exact k.elim
end
end DL

/-! DL8: loops, comprehensions -/
noncomputable section
namespace DL
open PySem L2 PyProof.Rows
open Evl (Ex)
def loopF (b : Bd) (p : DSt → Flow) : List PyData → DSt → Flow
  | [], s => .next s
  | d :: ds, s => match b d s with
    | none => .stuck
    | some s1 => match p s1 with
      | .next s2 => loopF b p ds s2
      | .cnt s2 => loopF b p ds s2
      | .brk s2 => .next s2
      | .ret r s2 => .ret r s2
      | .err x s2 => .err x s2
      | .stuck => .stuck
def fFor (fi : M (List PyData)) (b : Bd) (p : DSt → Flow) : DSt → Flow := fun s => onRes (fi s) fun ds s' => loopF b p ds s'
def whileF (c : M Bool) (p : DSt → Flow) : Nat → DSt → Flow
  | 0, _ => .stuck
  | n + 1, s => onRes (c s) fun t s1 => if t then match p s1 with
      | .next s2 => whileF c p n s2
      | .cnt s2 => whileF c p n s2
      | .brk s2 => .next s2
      | .ret r s2 => .ret r s2
      | .err x s2 => .err x s2
      | .stuck => .stuck
    else .next s1
section
variable {X : Cx} {cl : String → Addr} {W : WX} {e a b c tg iter : Expr} {es : List Expr} {f g : M R} {fs : M (List R)} {fi : M (List PyData)} {pos : Pos} {p q : DSt → Flow}
theorem s_for {body : List Stmt} {gg : TG} {bd : Bd} {js : List Nat} (hp : PassesOwn (model X.prog X.w) X.A X.env X.xe) (hc : X.calm = true) (hi : DI X cl W tg iter fi) (hg : PG X tg gg) (ho : GOk X.K gg bd js) (hb : DSs X cl W body p)
    (hs : ∀ x, foldedSetIterable iter X.env x = pure x := by intro _; rfl) : DS X cl W (.For tg iter body [] pos) (fFor fi bd p) := by
  refine ps_imp (ps_for hp hc hi hg hb hs) fun D σ H ⟨G, s, S, h⟩ => ⟨G, s, S, out_mono (fout_res h) fun ds G1 s1 H1 st1 S1 k J hJ => ?_⟩
  have k := fout_shift st1 k
  refine ⟨fun i m σ2 H2 => ∃ G2 s2, SA X.K G2 s2 σ2 H2 ∧ Ex G1 G2 ∧ m = ds.length - i ∧ i ≤ ds.length ∧ FOut X.K cl W G2 s2 σ2 H2 (loopF bd p (ds.drop i) s2) D, ⟨ds.length, G1, s1, S1, Ex.refl G1, by simp, Nat.zero_le _, by simpa using k⟩, ?_⟩
  rintro i m σ2 H2 ⟨G2, s2, S2, ex2, rfl, hi, k2⟩
  obtain ⟨j1, j2⟩ := hJ G2 s2 σ2 H2 ex2 S2 i
  by_cases hl : i < ds.length
  · obtain ⟨go, yl⟩ := j1 ds[i] (List.getElem?_eq_getElem hl)
    rw [List.drop_eq_getElem_cons hl] at k2
    refine .inr ⟨go, fun σ3 H3 => ∃ G3 s3, SA X.K G3 s3 σ3 H3 ∧ Ex G1 G3 ∧ FOut X.K cl W G3 s3 σ3 H3 (loopF bd p (ds.drop (i + 1)) s3) D, fun σ3 H3 ⟨G3, s3, S3, ex3, k3⟩ => ⟨ds.length - (i + 1), by omega, G3, s3, S3, ex3, rfl, hl, k3⟩, fun x H3 y => ?_⟩
    obtain ⟨G3, st3, S3, rp⟩ := yl x H3 y
    unfold loopF at k2
    cases q : bd ds[i] s2 with
    | none => rw [q] at k2; exact k2.elim
    | some s4 =>
      rw [q] at k2
      refine ho x ds[i] G3 s2 σ2 H3 s4 _ S3 rp q fun σ4 l4 n4 m4 w4 st4 S4 => ⟨G3, s4, S4, ?_⟩
      have st34 := st3.trans st4
      have k2 := fout_shift st34 k2
      have ex4 := ex2.trans st34.ex
      dsimp only at k2 ⊢
      cases z : p s4 with
      | next s5 => rw [z] at k2; exact fun G5 σ5 H5 st5 S5 => ⟨G5, s5, S5, ex4.trans st5.ex, fout_shift st5 k2⟩
      | cnt s5 => rw [z] at k2; exact fun G5 σ5 H5 st5 S5 => ⟨G5, s5, S5, ex4.trans st5.ex, fout_shift st5 k2⟩
      | brk s5 => rw [z] at k2; exact fun G5 σ5 H5 st5 S5 => k2 G5 σ5 H5 st5 S5
      | ret r s5 => rw [z] at k2; exact k2
      | err x s5 => rw [z] at k2; exact k2
      | stuck => rw [z] at k2; exact k2
  · have e : i = ds.length := by omega
    subst e
    rw [List.drop_length] at k2
    exact .inl ⟨j2 (Nat.le_refl _), k2 G2 σ2 H2 Stp.refl S2⟩
def fAsgB (f : M R) (bd : Bd) : DSt → Flow := fun s => onRes (bnd f fEsc s) fun r s' => match r with
  | .val d => match bd d s' with
    | some s2 => .next s2
    | none => .stuck
  | _ => .stuck
/-! ### comprehensions -/
def putBack (vs : List Nat) (old new : List Sl) : List Sl := vs.foldl (fun l v => l.set v (old.getD v .no)) new
def blank (vs : List Nat) (d : List Sl) : List Sl := vs.foldl (fun l v => l.set v .no) d
def noOwn (vs : List Nat) (d : List Sl) : Bool := vs.all fun v => match d[v]? with
  | some (.own _) => false
  | _ => true
def nerr {α : Type} (r : Res α) : Res α := match r with
  | .err _ _ => .stuck
  | r => r
def loopC (b : Bd) (ft : M Bool) (fe : M R) (vs : List Nat) : List PyData → List PyData → M (List PyData)
  | [], acc, s => .ok acc s
  | d :: ds, acc, s => if noOwn vs s.d then match b d { s with d := blank vs s.d } with
      | none => .stuck
      | some s1 => (nerr (ft s1)).bind fun t s2 => if t then (nerr (bnd fe fEsc s2)).bind fun r s3 => match r with
            | .val x => loopC b ft fe vs ds (acc ++ [x]) { s3 with d := putBack vs s.d s3.d }
            | _ => .stuck
          else loopC b ft fe vs ds acc { s2 with d := putBack vs s.d s2.d }
    else .stuck
def fLc (fi : M (List PyData)) (b : Bd) (ft : M Bool) (fe : M R) (vs : List Nat) : M R := bnd fi fun ds => bnd (fun s => if leS (ds.length) then loopC b ft fe vs ds [] s else .stuck) fun acc => ret (.new acc)
theorem blank_get (d : List Sl) (i : Nat) : ∀ vs : List Nat, (blank vs d)[i]? = if i ∈ vs then (if i < d.length then some .no else none) else d[i]? := by
  intro vs
  unfold blank
  induction vs generalizing d with
  | nil => simp
  | cons v vs ih =>
    rw [List.foldl_cons, ih]
    by_cases h : i ∈ vs
    · simp [h]
    · by_cases hv : i = v
      · subst hv; simp [h, List.getElem?_set]
      · simp [h, hv, List.getElem?_set_ne (Ne.symm hv)]
theorem blank_len (d : List Sl) : ∀ vs : List Nat, (blank vs d).length = d.length := by
  intro vs
  unfold blank
  induction vs generalizing d with
  | nil => rfl
  | cons v vs ih => rw [List.foldl_cons, ih]; simp
theorem back_len (old new : List Sl) : ∀ vs : List Nat, (putBack vs old new).length = new.length := by
  intro vs
  unfold putBack
  induction vs generalizing new with
  | nil => rfl
  | cons v vs ih => rw [List.foldl_cons, ih]; simp
theorem back_get (old new : List Sl) (i : Nat) : ∀ vs : List Nat, (putBack vs old new)[i]? = if i ∈ vs then (if i < new.length then some (old.getD i .no) else none) else new[i]? := by
  intro vs
  unfold putBack
  induction vs generalizing new with
  | nil => simp
  | cons v vs ih =>
    rw [List.foldl_cons, ih]
    by_cases h : i ∈ vs
    · simp [h]
    · by_cases hv : i = v
      · subst hv; simp [h, List.getElem?_set]
      · simp [h, hv, List.getElem?_set_ne (Ne.symm hv)]
theorem wipe_get (σ : L2.St) (i : Nat) : ∀ vs : List Nat, (wipe σ vs)[i]? = if i ∈ vs then (if i < σ.length then some none else none) else σ[i]? := by
  intro vs
  induction vs with
  | nil => simp [wipe]
  | cons v vs ih =>
    unfold wipe
    by_cases hv : i = v
    · subst hv
      simp [List.getElem?_set, wipe_length]
    · rw [List.getElem?_set_ne (Ne.symm hv), ih]
      simp [hv]
theorem wipe_same {σ σ' : L2.St} {vs : List Nat} (hl : σ'.length = σ.length) (h : ∀ i, i ∉ vs → σ'[i]? = σ[i]?) : wipe σ' vs = wipe σ vs := by
  apply List.ext_getElem?
  intro i
  rw [wipe_get, wipe_get, hl]
  by_cases q : i ∈ vs
  · simp [q]
  · simp [q, h i q]
theorem wipe_wipe (σ : L2.St) (vs : List Nat) : wipe (wipe σ vs) vs = wipe σ vs := wipe_same (wipe_length _ _) fun i hi => by rw [wipe_get]; simp [hi]
section
variable {K : PySem.W.Frag} {G H : Hp} {s : DSt} {σ : L2.St}
theorem own_blank {vs : List Nat} {i : Nat} {a : Addr} (h : OwnAt { s with d := blank vs s.d } (wipe σ vs) i a) : OwnAt s σ i a ∧ i ∉ vs := by
  obtain ⟨⟨ds, e⟩, h⟩ := h
  simp only [blank_get] at e
  by_cases q : i ∈ vs
  · rw [if_pos q] at e; split at e <;> cases e
  · rw [if_neg q] at e
    rw [wipe_get, if_neg q] at h
    exact ⟨⟨⟨ds, e⟩, h⟩, q⟩
theorem sa_blank (vs : List Nat) (S : SA K G s σ H) (hn : noOwn vs s.d = true) : Stp G s σ H G { s with d := blank vs s.d } (wipe σ vs) H ∧ SA K G { s with d := blank vs s.d } (wipe σ vs) H := by
  refine ⟨⟨Ex.refl G, fun a o h _ => ⟨h, rfl⟩, fun a z => .inl ?_, fun a h => h, fun a h => h⟩, ⟨by simp [blank_len, wipe_length, S.len], S.gh, fun i sl h => ?_, fun i j a h1 h2 => S.inj i j a (own_blank h1).1 (own_blank h2).1, fun i a h => S.ownG i a (own_blank h).1, S.pw, fun i a h => S.pne i a (own_blank h).1⟩⟩
  · rcases z with ⟨i, z⟩ | z
    · exact .inl ⟨i, (own_blank z).1⟩
    · exact .inr z
  · simp only [blank_get] at h
    by_cases q : i ∈ vs
    · rw [if_pos q] at h
      split at h
      · cases h; trivial
      · cases h
    · rw [if_neg q] at h
      rw [wipe_get, if_neg q]
      exact S.slot i sl h
theorem sa_back {G2 H2 : Hp} {s2 : DSt} {σ2 : L2.St} {vs : List Nat} (S : SA K G s σ H) (hn : noOwn vs s.d = true) (S2 : SA K G2 s2 σ2 H2) (ex : Ex G G2) (hw : wipe σ2 vs = wipe σ vs) :
    SA K G2 { s2 with d := putBack vs s.d s2.d } σ H2 ∧ ∀ a, Own { s2 with d := putBack vs s.d s2.d } σ a → Own s2 σ2 a := by
  have hl : σ2.length = σ.length := by rw [← wipe_length σ2 vs, hw, wipe_length]
  have hs : ∀ i, i ∉ vs → σ2[i]? = σ[i]? := fun i hi => by
    have := congrArg (fun l : L2.St => l[i]?) hw
    simp only [wipe_get, if_neg hi] at this
    exact this
  have ho : ∀ i a, OwnAt { s2 with d := putBack vs s.d s2.d } σ i a → OwnAt s2 σ2 i a := by
    rintro i a ⟨⟨ds, e⟩, h⟩
    simp only [back_get] at e
    by_cases q : i ∈ vs
    · rw [if_pos q] at e
      split at e
      · have e := Option.some.inj e
        have hn := List.all_eq_true.mp hn i q
        have e2 : s.d[i]? = some (.own ds) := by
          rw [List.getD_eq_getElem?_getD] at e
          cases z : s.d[i]? with
          | none => rw [z] at e; cases e
          | some o => rw [z] at e; simp at e; rw [e]
        rw [e2] at hn
        cases hn
      · cases e
    · rw [if_neg q] at e
      exact ⟨⟨ds, e⟩, by rw [hs i q]; exact h⟩
  refine ⟨⟨by simp [back_len, S2.len, hl], S2.gh, fun i sl h => ?_, fun i j a h1 h2 => S2.inj i j a (ho i a h1) (ho j a h2), fun i a h => S2.ownG i a (ho i a h), S2.pw, fun i a h => S2.pne i a (ho i a h)⟩, fun a z => ?_⟩
  · simp only [back_get] at h
    by_cases q : i ∈ vs
    · rw [if_pos q] at h
      split at h
      · have h := Option.some.inj h
        have hn := List.all_eq_true.mp hn i q
        rw [List.getD_eq_getElem?_getD] at h
        cases z : s.d[i]? with
        | none => rw [z] at h; simp at h; subst h; trivial
        | some o =>
          rw [z] at h
          simp at h
          subst h
          have sl := S.slot i _ z
          cases o with
          | no => trivial
          | val d => obtain ⟨v, e, hd⟩ := sl; exact ⟨v, e, dp_mono ex _ _ hd⟩
          | raw v => exact sl
          | ob o => obtain ⟨v, e, hd⟩ := sl; exact ⟨v, e, ob_mono ex hd⟩
          | own ds => rw [z] at hn; cases hn
      · cases h
    · rw [if_neg q] at h
      rw [← hs i q]
      exact S2.slot i sl h
  · rcases z with ⟨i, z⟩ | z
    · exact .inl ⟨i, ho i a z⟩
    · exact .inr z
end
theorem sa_write {K : PySem.W.Frag} {G H : Hp} {s : DSt} {σ : L2.St} {D : Addr} {o : HO} (S : SA K G s σ H) (hg : G D = none) (hn : ¬ Own s σ D) (hx : ∀ φ, H D ≠ some (.ext φ)) : SA K G s σ (upd H D o) := by
  refine ⟨S.len, fun a u h => ?_, fun i sl h => ?_, S.inj, S.ownG, ?_, S.pne⟩
  · rw [upd_ne fun z => by subst z; rw [hg] at h; cases h]; exact S.gh a u h
  · have q := S.slot i sl h
    cases sl with
    | no => trivial
    | val d => exact q
    | raw v => exact q
    | ob o => exact q
    | own es =>
      obtain ⟨a, xs, e, ha, hh⟩ := q
      refine ⟨a, xs, e, ?_, hh⟩
      rw [upd_ne fun z => hn (by
        subst z
        refine .inl ⟨i, ⟨es, h⟩, ?_⟩
        cases w : σ[i]? with
        | none => rw [w] at e; cases e
        | some o => rw [w] at e; simp at e; rw [e])]
      exact ha
  · exact pwok_to S.pw (fun b o h z => by rw [upd_ne fun q => hn (by subst q; exact .inr z)]; exact h) (fun b φ h => by rw [upd_ne fun q => by subst q; exact hx φ h]; exact h) fun b z => G_pown S.pw z
theorem lc_reads {K : PySem.W.Frag} {gg : TG} {bd : Bd} {js vs : List Nat} {ft : M Bool} {fe : M R} {fi : M (List PyData)} (ho : GOk K gg bd js) (hj : ∀ j ∈ js, j ∈ vs) {σ : L2.St} {H : Hp} {Q : VK} (q : tD K cl W (fLc fi bd ft fe vs) σ H Q) :
    tLc (tI K cl W fi) gg (tT K cl (fun _ _ _ _ => False) ft) (tD K cl (fun _ _ _ _ => False) fe) vs σ H Q := by
  obtain ⟨G, s, S, q⟩ := q
  refine ⟨G, s, S, out_mono (out_bind q) fun ds G1 s1 H1 st1 S1 k J hJ D hD => ?_⟩
  have k : Out K cl W G1 s1 σ H1 (if leS (ds.length) then loopC bd ft fe vs ds [] s1 else .stuck) _ := out_bind k
  by_cases hz : leS ds.length
  rotate_left
  · rw [if_neg hz] at k; exact k.elim
  rw [if_pos hz] at k
  have hz : ds.length ≤ sizeLine := hz
  obtain ⟨stD, SD, rrD⟩ := new_list (ds := []) S1 hD .nil st1.dom
  obtain ⟨aD, xD, eD, _, _, gD, _, nD⟩ := rrD
  cases eD
  refine ⟨fun i m H2 => ∃ G2 s2 acc accv, SA K G2 s2 σ H2 ∧ Stp G1 s1 σ H1 G2 s2 σ H2 ∧ H2 D = some (.lst accv) ∧ RpAll K G2 accv acc ∧ G2 D = none ∧ ¬ Own s2 σ D ∧ acc.length ≤ i ∧ m = ds.length - i ∧ i ≤ ds.length ∧
      Out K cl W G1 s1 σ H1 (loopC bd ft fe vs (ds.drop i) acc s2) _, ⟨ds.length, G1, s1, [], [], SD, stD, upd_same, .nil, gD, nD, Nat.le_refl _, by simp, Nat.zero_le _, by simpa using k⟩, ?_⟩
  rintro i m H2 ⟨G2, s2, acc, accv, S2, st2, hD2, hacc, gD2, nD2, hla, rfl, hi, k2⟩
  obtain ⟨j1, j2⟩ := hJ G2 s2 σ H2 st2.ex S2 i
  by_cases hl : i < ds.length
  · obtain ⟨go, yl⟩ := j1 ds[i] (List.getElem?_eq_getElem hl)
    rw [List.drop_eq_getElem_cons hl] at k2
    unfold loopC at k2
    refine .inr ⟨go, fun H3 => ∃ G3 s3 acc accv, SA K G3 s3 σ H3 ∧ Stp G1 s1 σ H1 G3 s3 σ H3 ∧ H3 D = some (.lst accv) ∧ RpAll K G3 accv acc ∧ G3 D = none ∧ ¬ Own s3 σ D ∧ acc.length ≤ i + 1 ∧
      Out K cl W G1 s1 σ H1 (loopC bd ft fe vs (ds.drop (i + 1)) acc s3) _, fun H3 ⟨G3, s3, acc, accv, a1, a2, a3, a4, a5, a6, a7, a8⟩ => ⟨ds.length - (i + 1), by omega, G3, s3, acc, accv, a1, a2, a3, a4, a5, a6, a7, rfl, hl, a8⟩, fun x H3 y => ?_⟩
    by_cases hn : noOwn vs s2.d = true
    rotate_left
    · rw [if_neg hn] at k2; exact k2.elim
    rw [if_pos hn] at k2
    obtain ⟨stB, SB⟩ := sa_blank vs S2 hn
    obtain ⟨j3, _⟩ := hJ G2 _ _ H2 st2.ex SB i
    obtain ⟨_, yl⟩ := j3 ds[i] (List.getElem?_eq_getElem hl)
    obtain ⟨G3, st3, S3, rp⟩ := yl x H3 y
    cases eb : bd ds[i] { s2 with d := blank vs s2.d } with
    | none => rw [eb] at k2; exact k2.elim
    | some s4 =>
      rw [eb] at k2
      refine ho x ds[i] G3 _ (wipe σ vs) H3 s4 _ S3 rp eb fun σ4 l4 n4 m4 w4 st4 S4 => ?_
      have hw : wipe σ4 vs = wipe σ vs := (wipe_same l4 fun i hi => n4 i fun z => hi (hj i z)).trans (wipe_wipe σ vs)
      refine ⟨hw, G3, s4, S4, ?_⟩
      have stA := (stB.trans st3).trans st4
      -- what holds behind the turn
      have fin : ∀ {G5 : Hp} {s5 : DSt} {H5 : Hp}, Stp G2 s2 σ H2 G5 s5 σ4 H5 → SA K G5 s5 σ4 H5 → SA K G5 { s5 with d := putBack vs s2.d s5.d } σ H5 ∧ Stp G1 s1 σ H1 G5 { s5 with d := putBack vs s2.d s5.d } σ H5 ∧ H5 D = some (.lst accv) ∧ G5 D = none ∧ ¬ Own { s5 with d := putBack vs s2.d s5.d } σ D := by
        intro G5 s5 H5 st5 S5
        obtain ⟨b1, b2⟩ := sa_back S2 hn S5 st5.ex hw
        obtain ⟨c1, c2⟩ := st5.keep D _ hD2 nD2
        have st6 : Stp G2 s2 σ H2 G5 { s5 with d := putBack vs s2.d s5.d } σ H5 := ⟨st5.ex, st5.keep, fun a z => st5.own a (b2 a z), st5.dom, st5.pw⟩
        exact ⟨b1, st2.trans st6, c1, c2.trans gD2, fun z => (st6.own D z).elim nD2 fun z => by rw [hD2] at z; cases z⟩
      have k2 : Out K cl W G1 s1 σ H1 ((nerr (ft s4)).bind _) _ := k2
      cases et : ft s4 with
      | err x s5 => rw [et] at k2; exact k2.elim
      | stuck => rw [et] at k2; exact k2.elim
      | ok t s5 =>
        rw [et] at k2
        intro G5 H5 st5 S5
        have st25 := stA.trans st5
        cases t with
        | false =>
          obtain ⟨b1, b2, b3, b4, b5⟩ := fin st25 S5
          exact ⟨G5, _, acc, accv, b1, b2, b3, dps_mono st25.ex _ _ hacc, b4, b5, Nat.le_succ_of_le hla, k2⟩
        | true =>
          have k2 : Out K cl W G1 s1 σ H1 ((nerr (bnd fe fEsc s5)).bind _) _ := k2
          refine ⟨G5, s5, S5, ?_⟩
          cases ef : fe s5 with
          | err x s6 => rw [bnd_app, ef] at k2; exact k2.elim
          | stuck => rw [bnd_app, ef] at k2; exact k2.elim
          | ok r s6 =>
            rw [bnd_app, ef] at k2
            intro G6 H6 st6 S6 v rr
            have k2 : Out K cl W G1 s1 σ H1 ((nerr (fEsc r s6)).bind _) _ := k2
            unfold fEsc at k2
            cases ee : esc r s6 with
            | none => rw [ee] at k2; exact k2.elim
            | some p =>
              obtain ⟨r2, s7⟩ := p
              rw [ee] at k2
              obtain ⟨G7, st7, S7, ex7, ar⟩ := esc_ok S6 st6 rr ee
              have st27 := st25.trans st7
              obtain ⟨b1, b2, b3, b4, b5⟩ := fin st27 S7
              cases r2 with
              | raw u => exact k2.elim
              | ob o => exact k2.elim
              | new u => exact k2.elim
              | slot u => exact k2.elim
              | val d =>
                have hacc7 := dps_mono st27.ex _ _ hacc
                refine ⟨accv, b3, ?_, G7, _, acc ++ [d], accv ++ [v], sa_write b1 b4 b5 (fun φ q => by rw [b3] at q; cases q), ⟨b2.ex, fun a o h1 h2 => ?_, b2.own, fun a h1 => ?_, b2.pw⟩, upd_same, dps_app hacc7 (.cons ar .nil), b4, b5, by simp; omega, k2⟩
                · rw [dps_len hacc]
                  omega
                · have ne : a ≠ D := fun z => by subst z; rw [hD] at h1; cases h1
                  rw [upd_ne ne]
                  exact b2.keep a o h1 h2
                · by_cases ne : a = D
                  · subst ne; rw [upd_same]; simp
                  · rw [upd_ne ne]; exact b2.dom a h1
  · have e : i = ds.length := by omega
    subst e
    rw [List.drop_length] at k2
    refine .inl ⟨j2 (Nat.le_refl _), ?_⟩
    have k3 := k2 G2 H2 st2 S2
    have k4 := k3 G2 H2 Stp.refl S2 (.ref D) ⟨D, accv, rfl, hD2, hacc, gD2, Classical.byContradiction fun z => st1.dom D z hD, nD2⟩
    exact k4
abbrev W0 : WX := fun _ _ _ _ => False
theorem d_lc {elt : Expr} {ifs : List Expr} {scope : Scope} {own : List (Str × Nat)} {gg : TG} {bd : Bd} {js : List Nat} {ft : M Bool} {fe : M R} (hc : X.calm = true) (hN : X.N.Nodup) (hi : DI X cl W tg iter fi) (ok : BlkOk X.N X.env.scope scope own) (ho : GOk X.K gg bd js) (hj : ∀ j ∈ js, j ∈ own.map (·.2))
    (hg : ∀ (s : Shared) (H : Hp) (C : Addr) (cl : List (Str × Addr)) (fp : List Addr), PG (X.blk s H scope (compEnvC scope cl C X.env) fp) tg gg) (ht : ∀ (s : Shared) (H : Hp) (C : Addr) (clo : List (Str × Addr)) (fp : List Addr), PTs (X.blk s H scope (compEnvC scope clo C X.env) fp) ifs (tT X.K cl W0 ft))
    (he : ∀ (s : Shared) (H : Hp) (C : Addr) (clo : List (Str × Addr)) (fp : List Addr), DE (X.blk s H scope (compEnvC scope clo C X.env) fp) cl W0 elt fe) (hs : ∀ x, foldedSetIterable iter X.env x = pure x := by intro _; rfl) :
    DE X cl W (.ListComp elt [⟨tg, iter, ifs, 0⟩] scope pos) (fLc fi bd ft fe (own.map (·.2))) := pe_imp (pe_lc hc hN hi ok hg ht he hs) fun σ H Q q => lc_reads ho hj q
theorem s_setLc {i : Nat} {y : Str} {py : Pos} {elt : Expr} {ifs : List Expr} {scope : Scope} {own : List (Str × Nat)} {spos : Pos} {gg : TG} {bd : Bd} {js : List Nat} {ft : M Bool} {fe : M R} (hc : X.calm = true) (hN : X.N.Nodup) (hy : X.N[i]? = some y) (hyl : X.env.scope.names.lookup y = some .local)
    (hsw : swapsWith (.ListComp elt [⟨tg, iter, ifs, 0⟩] scope pos) (some (.Name y py)) spos.line X.env = pure true) (hi : DI X cl W tg iter fi) (ok : BlkOk X.N X.env.scope scope own) (ho : GOk X.K gg bd js) (hj : ∀ j ∈ js, j ∈ own.map (·.2))
    (hg : ∀ (s : Shared) (H : Hp) (C : Addr) (cl : List (Str × Addr)) (fp : List Addr), PG (X.blk s H scope (compEnvC scope cl C X.env) fp) tg gg) (ht : ∀ (s : Shared) (H : Hp) (C : Addr) (clo : List (Str × Addr)) (fp : List Addr), PTs (X.blk s H scope (compEnvC scope clo C X.env) fp) ifs (tT X.K cl W0 ft))
    (he : ∀ (s : Shared) (H : Hp) (C : Addr) (clo : List (Str × Addr)) (fp : List Addr), DE (X.blk s H scope (compEnvC scope clo C X.env) fp) cl W0 elt fe) (hs : ∀ x, foldedSetIterable iter X.env x = pure x := by intro _; rfl) :
    DS X cl W (.Assign [.Name y py] (.ListComp elt [⟨tg, iter, ifs, 0⟩] scope pos) spos) (fSet i (fLc fi bd ft fe (own.map (·.2)))) := ps_imp (ps_setLc hc hN hy hyl hsw hi ok hg ht he hs) fun D σ H q => by
  have q' := set_reads q
  exact lc_reads ho hj q'
def fYes : M Bool := ret true
theorem dts_nil {K : PySem.W.Frag} : PTs X [] (tT K cl W fYes) := ⟨fun pins s σ H Q I ⟨G, st, S, h⟩ => pts_nil.run pins s σ H Q I (h G H Stp.refl S)⟩
theorem dts_one {t : M Bool} (h : DT X cl W c t) : PTs X [c] (tT X.K cl W t) := pts_one h
end
end DL

/-! DL9: built-ins, methods -/
noncomputable section
namespace DL
open PySem L2 PyProof.Rows
open Evl (Ex)
def looks : List R → DSt → Option (List PyData)
  | [], _ => some []
  | r :: rs, s => match look r s, looks rs s with
    | some d, some ds => some (d :: ds)
    | _, _ => none
theorem looks_q {K : PySem.W.Frag} {H0 G H : Hp} {s : DSt} {σ : L2.St} (S : SA K G s σ H) : ∀ {rs : List R} {vs : List V} {ds : List PyData}, RRels K H0 G s σ H vs rs → looks rs s = some ds → Paired (Dq K G H) vs ds
  | [], _, _, .nil, e => by cases e; exact .nil
  | r :: rs, _, ds, .cons h t, e => by
    simp only [looks] at e
    split at e
    · rename_i d es e1 e2
      cases e
      exact .cons (look_q S h e1) (looks_q S t e2)
    · cases e
def CallD (K : PySem.W.Frag) (r : List V → Hp → VK → Prop) (o : List PyData → Option R) : Prop := ∀ (G H : Hp) (vs : List V) (ds : List PyData) (r' : R) (Q : VK), Ex G H → Paired (Dq K G H) vs ds → o ds = some r' → Ans K G H r' Q → r vs H Q
def fCall (o : List PyData → Option R) (fs : M (List R)) : M R := bnd fs fun rs s => match looks rs s with
  | some ds => match o ds with
    | some (.slot _) => .stuck
    | some r => .ok r s
    | none => .stuck
  | none => .stuck
section
variable {X : Cx} {cl : String → Addr} {W : WX} {e a b c tg iter : Expr} {es : List Expr} {f g : M R} {fs : M (List R)} {fi : M (List PyData)} {pos : Pos} {p q : DSt → Flow}
theorem call_reads {K : PySem.W.Frag} {r : List V → Hp → VK → Prop} {o : List PyData → Option R} (h : CallD K r o) {σ : L2.St} {H : Hp} {Q : VK} (q : tD K cl W (fCall o fs) σ H Q) : tCB r (tA K cl W fs) σ H Q := by
  obtain ⟨G, s, S, q⟩ := q
  refine ⟨G, s, S, out_mono (out_bind q) fun rs G1 s1 H1 st1 S1 k vs hv => ?_⟩
  split at k
  · rename_i ds e1
    split at k
    · exact k.elim
    · rename_i r' ns ho
      exact h G1 H1 vs ds r' Q S1.gh (looks_q S1 hv e1) ho (ans_of S1 st1.dom (fun i z => ns i z) k)
    · exact k.elim
  · exact k.elim
theorem d_callB {x : Str} {p : Pos} {id : String} {r : List V → Hp → VK → Prop} {o : List PyData → Option R} (hc : CallR X (.builtin id) r) (h : CallD X.K r o) (hg : Gl X x) (hm : X.mg x = none) (hv : bootBuiltins x = some (.builtin id)) (ha : DA X cl W (e :: es) fs) (hn : x ≠ "__name__" := by decide) (hdb : (x == ("__debug__" : Str)) = false := by decide)
    (he : starEach (e :: es) X.env = (false, eval e X.env) :: starEach es X.env := by rfl) (hpl : (backTo pos (starEach es X.env)).any (·.1) = false := by rfl) : DE X cl W (.Call (.Name x p) (e :: es) [] pos) (fCall o fs) :=
  pe_imp (pe_callB hc hg hm hv ha hn hdb he hpl) fun σ H Q q => call_reads h q
theorem d_callTy {x : Str} {p : Pos} {T : String} {r : List V → Hp → VK → Prop} {o : List PyData → Option R} (hc : CallR X (.type T) r) (h : CallD X.K r o) (hg : Gl X x) (hm : X.mg x = none) (hv : bootBuiltins x = some (.type T)) (ha : DA X cl W (e :: es) fs) (hn : x ≠ "__name__" := by decide) (hdb : (x == ("__debug__" : Str)) = false := by decide)
    (he : starEach (e :: es) X.env = (false, eval e X.env) :: starEach es X.env := by rfl) (hpl : (backTo pos (starEach es X.env)).any (·.1) = false := by rfl) : DE X cl W (.Call (.Name x p) (e :: es) [] pos) (fCall o fs) :=
  pe_imp (pe_callTy hc hg hm hv ha hn hdb he hpl) fun σ H Q q => call_reads h q
theorem CallR.or' {f : Value} {r r' : List V → Hp → VK → Prop} (h : CallR X f r) (h' : CallR X f r') : CallR X f (fun vs H Q => r vs H Q ∨ r' vs H Q) := by
  intro pins s σ H vs us Q I rv q
  rcases q with q | q
  · exact h pins s σ H vs us Q I rv q
  · exact h' pins s σ H vs us Q I rv q
end
/-! the built-ins -/
def lenO : List PyData → Option R
  | [.list ds] => some (.val (.int ds.length))
  | [.tuple ds] => some (.val (.int ds.length))
  | [.str z] => if leS (z.length) then some (.val (.int z.length)) else none
  | _ => none
theorem cd_len {K : PySem.W.Frag} : CallD K (fun xs H Q => (∃ p ys, xs = [.ref p] ∧ (SqL K H p ys ∨ SqT K H p ys) ∧ Q (.int ys.length) H) ∨ ∃ z, xs = [.str z] ∧ z.length ≤ sizeLine ∧ Q (.int z.length) H) lenO := by
  intro G H vs ds r' Q ex hv ho k
  unfold lenO at ho
  split at ho
  · cases ho
    cases hv with
    | cons h t =>
      cases t
      obtain ⟨p, xs, rfl, hp, hx⟩ := dq_lst h
      refine .inl ⟨p, xs, rfl, .inl (.of hp), ?_⟩
      rw [dps_len hx]
      exact k.1 _ (.int _)
  · cases ho
    cases hv with
    | cons h t =>
      cases t
      obtain ⟨p, xs, rfl, hp, hx, _⟩ := dq_tup ex h
      refine .inl ⟨p, xs, rfl, .inr hp, ?_⟩
      rw [dps_len hx]
      exact k.1 _ (.int _)
  · split at ho
    · cases ho
      cases hv with
      | cons h t =>
        cases t
        obtain rfl := dq_str h
        exact .inr ⟨_, rfl, by assumption, k.1 _ (.int _)⟩
    · cases ho
  · cases ho
def listO : List PyData → Option R
  | [.list ds] => some (.new ds)
  | [.tuple ds] => some (.new ds)
  | _ => none
theorem cd_list {K : PySem.W.Frag} : CallD K (fun xs H Q => ∃ p ys, xs = [.ref p] ∧ (SqL K H p ys ∨ SqT K H p ys) ∧ ∀ l, H l = none → Q (.ref l) (upd H l (.lst ys))) listO := by
  intro G H vs ds r' Q ex hv ho k
  unfold listO at ho
  split at ho
  · cases ho
    cases hv with
    | cons h t =>
      cases t
      obtain ⟨p, xs, rfl, hp, hx⟩ := dq_lst h
      exact ⟨p, xs, rfl, .inl (.of hp), fun l hl => k l _ hl hx⟩
  · cases ho
    cases hv with
    | cons h t =>
      cases t
      obtain ⟨p, xs, rfl, hp, hx, _⟩ := dq_tup ex h
      exact ⟨p, xs, rfl, .inr hp, fun l hl => k l _ hl hx⟩
  · cases ho
def tupleO : List PyData → Option R
  | [.list ds] => some (.val (.tuple ds))
  | [.tuple ds] => some (.val (.tuple ds))
  | _ => none
theorem cd_tuple {K : PySem.W.Frag} : CallD K (fun xs H Q => ∃ p ys, xs = [.ref p] ∧ ((SqL K H p ys ∧ ∀ l, H l = none → Q (.ref l) (upd H l (.tup ys))) ∨ (SqT K H p ys ∧ Q (.ref p) H))) tupleO := by
  intro G H vs ds r' Q ex hv ho k
  unfold tupleO at ho
  split at ho
  · cases ho
    cases hv with
    | cons h t =>
      cases t
      obtain ⟨p, xs, rfl, hp, hx⟩ := dq_lst h
      exact ⟨p, xs, rfl, .inl ⟨.of hp, fun l hl => k.2 _ l _ rfl hl hx⟩⟩
  · cases ho
    cases hv with
    | cons h t =>
      cases t
      obtain ⟨p, xs, rfl, hp, hx, h1⟩ := dq_tup ex h
      exact ⟨p, xs, rfl, .inr ⟨hp, k.1 _ h1⟩⟩
  · cases ho
def intsD : List PyData → Option (List Int)
  | [] => some []
  | .int i :: r => (intsD r).map (i :: ·)
  | _ :: _ => none
def boolsD : List PyData → Option (List Bool)
  | [] => some []
  | .bool i :: r => (boolsD r).map (i :: ·)
  | _ :: _ => none
theorem ints_rp {K : PySem.W.Frag} {G : Hp} : ∀ {ds : List PyData} {vs : List V} {ns : List Int}, RpAll K G vs ds → intsD ds = some ns → vs = ns.map V.int
  | [], _, _, h, e => by cases h; cases e; rfl
  | .int i :: r, _, ns, h, e => by
    cases h with
    | cons h1 h2 =>
      cases h1
      simp only [intsD] at e
      cases q : intsD r with
      | none => rw [q] at e; cases e
      | some ms => rw [q] at e; cases e; rw [ints_rp h2 q]; rfl
  | .none :: _, _, _, _, e | .bool _ :: _, _, _, _, e | .str _ :: _, _, _, _, e | .list _ :: _, _, _, _, e | .tuple _ :: _, _, _, _, e | .dict _ :: _, _, _, _, e => by cases e
theorem bools_rp {K : PySem.W.Frag} {G : Hp} : ∀ {ds : List PyData} {vs : List V} {ns : List Bool}, RpAll K G vs ds → boolsD ds = some ns → vs = ns.map V.bl
  | [], _, _, h, e => by cases h; cases e; rfl
  | .bool i :: r, _, ns, h, e => by
    cases h with
    | cons h1 h2 =>
      cases h1
      simp only [boolsD] at e
      cases q : boolsD r with
      | none => rw [q] at e; cases e
      | some ms => rw [q] at e; cases e; rw [bools_rp h2 q]; rfl
  | .none :: _, _, _, _, e | .int _ :: _, _, _, _, e | .str _ :: _, _, _, _, e | .list _ :: _, _, _, _, e | .tuple _ :: _, _, _, _, e | .dict _ :: _, _, _, _, e => by cases e
theorem rp_ints {K : PySem.W.Frag} {G : Hp} : ∀ ns : List Int, RpAll K G (ns.map V.int) (ns.map PyData.int)
  | [] => .nil
  | n :: ns => .cons (.int n) (rp_ints ns)
@[simp] theorem intsD_map : ∀ ns : List Int, intsD (ns.map PyData.int) = some ns
  | [] => rfl
  | n :: ns => by simp [intsD, intsD_map ns]
@[simp] theorem boolsD_map : ∀ ns : List Bool, boolsD (ns.map PyData.bool) = some ns
  | [] => rfl
  | n :: ns => by simp [boolsD, boolsD_map ns]
def allO : List PyData → Option R
  | [.list ds] => (boolsD ds).map fun bs => .val (.bool (bs.all id))
  | _ => none
def anyO : List PyData → Option R
  | [.list ds] => (boolsD ds).map fun bs => .val (.bool (bs.any id))
  | _ => none
def sumO : List PyData → Option R
  | [.list ds] => (intsD ds).map fun bs => .val (.int bs.sum)
  | _ => none
theorem cd_all {K : PySem.W.Frag} : CallD K (rAll K) allO := by
  intro G H vs ds r' Q ex hv ho k
  unfold allO at ho
  split at ho
  · cases hv with
    | cons h t =>
      cases t
      obtain ⟨p, xs, rfl, hp, hx⟩ := dq_lst h
      rename_i es
      cases q : boolsD es with
      | none => rw [q] at ho; cases ho
      | some bs => rw [q] at ho; cases ho; exact ⟨p, bs, rfl, .of (by rw [← bools_rp hx q]; exact hp), k.1 _ (.bl _)⟩
  · cases ho
def maxI : List Int → Int
  | [] => 0
  | n :: ns => ns.foldl max n
def minI : List Int → Int
  | [] => 0
  | n :: ns => ns.foldl min n
def maxO : List PyData → Option R
  | [.list ds] => match intsD ds with
    | some (n :: ns) => some (.val (.int (maxI (n :: ns))))
    | _ => none
  | [.int i, .int j] => some (.val (.int (if j > i then j else i)))
  | _ => none
def minO : List PyData → Option R
  | [.list ds] => match intsD ds with
    | some (n :: ns) => some (.val (.int (minI (n :: ns))))
    | _ => none
  | [.int i, .int j] => some (.val (.int (if j < i then j else i)))
  | _ => none
def absO : List PyData → Option R
  | [.int i] => some (.val (.int (if i < 0 then -i else i)))
  | _ => none
def intO : List PyData → Option R
  | [.int i] => some (.val (.int i))
  | [.bool b] => some (.val (.int (if b then 1 else 0)))
  | _ => none
theorem cd_int {K : PySem.W.Frag} : CallD K (fun xs H Q => (∃ i, xs = [.int i] ∧ Q (.int i) H) ∨ ∃ k, xs = [.bl k] ∧ Q (.int (if k then 1 else 0)) H) intO := by
  intro G H vs ds r' Q ex hv ho k
  unfold intO at ho
  split at ho
  · cases ho
    cases hv with
    | cons h t =>
      cases t
      obtain rfl := dq_int h
      exact .inl ⟨_, rfl, k.1 _ (.int _)⟩
  · cases ho
    cases hv with
    | cons h t =>
      cases t
      obtain rfl := dq_bl h
      exact .inr ⟨_, rfl, k.1 _ (.int _)⟩
  · cases ho
def sortI (ns : List Int) : List Int := ns.mergeSort fun a b => decide (a ≤ b)
def sortDD (ds : List PyData) : List PyData := ds.mergeSort (PySem.W.sortLe (PyProof.Rows.listOrd PyProof.Rows.itemOrd) false PySem.W.keyToks)
def canSort (ds : List PyData) : Prop := PySem.W.AllAlike ds ∧ PySem.W.Sortable ds ∧ ∀ d ∈ ds, d.depth ≤ 50
instance (ds : List PyData) : Decidable (canSort ds) := Classical.propDecidable _
def sortedO : List PyData → Option R
  | [.list ds] => match intsD ds with
    | some ns => some (.new ((sortI ns).map .int))
    | none => if canSort ds then some (.new (sortDD ds)) else none
  | _ => none
def rSortedD (K : PySem.W.Frag) : List V → Hp → VK → Prop := fun vs H Q => ∃ (a : Addr) (xs : List V) (ds : List PyData), vs = [.ref a] ∧ SqL K H a xs ∧ DpAll K H xs ds ∧ canSort ds ∧
  ∀ zs : List (V × PyData), zs.Perm (xs.zip ds) → zs.map (·.2) = sortDD ds → ∀ p, H p = none → Q (.ref p) (upd H p (.lst (zs.map (·.1))))
section
variable {X : Cx}
end
end DL

/-! DLg: promises of defs that are called where nothing is being written out (A.guards = some []) -/
noncomputable section
namespace DL
open PySem L2 PySem.Spec PyProof.Rows
open Evl (Ex)
structure RoomG (k : Nat) (A : Around) : Prop where
  room : Room k A
  quiet : A.guards = some []
theorem RoomG.mono {j k : Nat} {A : Around} (r : RoomG k A) (h : j ≤ k) : RoomG j A := ⟨r.room.mono h, r.quiet⟩
theorem RoomG.units {k : Nat} {A : Around} (r : RoomG k A) : A.units + 64 < cLine := r.room.units
theorem RoomG.deeper {k : Nat} {A : Around} (r : RoomG (k + 1) A) (env : Env) : RoomG k (A.deeper env) := ⟨r.room.deeper env, r.quiet⟩
structure FnG (P : Program) (w : World) (K : PySem.W.Frag) (mg : Str → Option Value) (base : Heap) (CX : CXT) (k : Nat) (f : Addr) (fd : FuncData) (ps : List Str) (sp : Sp) : Prop where
  many : ∀ vs H Q E, sp vs H Q E → vs.length = ps.length
  goes : ∀ (A : Around) (outer : List Env) (st : Shared) (H : Hp) (args : Args) (us : List Value) (vs : List V) (Q : VK) (E : XK), RoomG k A → Env0 P w K mg base A outer st H → BindsTo st fd args (ps.zip us) → Vals vs us → sp vs H Q E →
    codeAny (model P w) A (.call (.ref f) args) (CR CX outer P w H st Q E) st
section
variable {X : Cx} {CX : CXT} {k : Nat} {f : Addr} {fd : FuncData} {ps : List Str} {sp : Sp} {E : L2.St → XK} {x : Str} {p pos : Pos} {e : Expr} {es : List Expr} {t : TA}
theorem run_G {pins : List (Addr × Obj)} {σ : L2.St} {H : Hp} {st : Shared} {Q : VK} {us : List Value} {vs : List V} (F : FnG X.prog X.w X.K X.mg X.base CX k f fd ps sp) (hr : RoomG k X.A) (hb : Binds X.K fd ps []) (hx : PassesAt CX X σ (E σ))
    (I : Inv X pins σ H st) (r : Vals vs us) (h : sp vs H Q (E σ)) : wpAny (model X.prog X.w) X.A (call (.ref f) us) (EP X pins σ Q) X.xe st := by
  have hl : us.length = ps.length := r.length.symm.trans (F.many _ _ _ _ h)
  have hbind := hb st us I.kIn (by simpa using hl)
  rw [List.append_nil] at hbind
  refine wpAny_call (codeAny_mono (F.goes X.A X.stack st H ⟨us, []⟩ us vs Q (E σ) hr I.env0 hbind r h) ?_)
  intro res st' hq
  match res, hq with
  | .error z, hq => exact hx pins H st z st' I hq
  | .ok (.ret u), hq => exact I.after hq
  | .ok .next, hq => exact hq.elim
  | .ok .brk, hq => exact hq.elim
  | .ok .cont, hq => exact hq.elim
theorem pe_callG (F : FnG X.prog X.w X.K X.mg X.base CX k f fd ps sp) (hr : RoomG k X.A) (hg : Gl X x) (hm : X.mg x = some (.ref f)) (hk : PySem.W.keepIn X.K (.ref f) = true) (hb : Binds X.K fd ps []) (hx : ∀ σ, PassesAt CX X σ (E σ))
    (ha : PA X (e :: es) t) (hdb : (x == ("__debug__" : Str)) = false := by decide) (he : starEach (e :: es) X.env = (false, eval e X.env) :: starEach es X.env := by rfl) (hpl : (backTo pos (starEach es X.env)).any (·.1) = false := by rfl) :
    PE X (.Call (.Name x p) (e :: es) [] pos) (tCallS sp E t) :=
  ⟨fun pins st σ H Q I h => wpAny_Call_Name_kw (ld_glob I hg hm (PySem.W.callWith_K (h₀ := X.base) I.ok.mod.kin hk (thn (ha.run pos pins st σ H _ I h) fun _ _ ⟨_, _, I1, r, q⟩ => ⟨I1.kIn, run_G F hr hb (hx σ) I1 r q⟩) he hpl) hdb)⟩
end
section
variable {P : Program} {w : World} {K : PySem.W.Frag} {mg : Str → Option Value} {base : Heap}
theorem okG {x qual : Str} {d : Stmt} {f : Addr} {fd : FuncData} {N ps : List Str} {k : Nat} {sp : Sp} (F : Fun K x qual d f fd) (S : FnScope N ps (defScope d)) (many : ∀ vs H Q E, sp vs H Q E → vs.length = ps.length)
    (hbody : ∀ (cdv : Value) (A : Around) (outer : List Env) (st : Shared) (H : Hp) (vs : List V) (Q : VK) (E : XK), RoomG k (A.deeper (envOfC qual (defScope d) st.heap.objs.size f cdv)) → sp vs H Q E →
      ∃ t, PSs (cxOf (L2.CX P w) P w K mg base N qual (defScope d) f cdv A outer st H E) (defBody d) t ∧ t { nx := fun _ H' => Q .non H', rt := Q } (start N vs) H) : FnG P w K mg base (L2.CX P w) (k + 1) f fd ps sp := by
  obtain ⟨oc, od, kV, doc, pm, an, cdv, ct, osl, rfl, lk, hcd⟩ := F.ex
  refine ⟨many, ?_⟩
  intro A outer st H args us vs Q E hr e0 hb r hsp
  have up : ∀ b o, base.get? b = some o → st.heap.get? b = some o := fun b o z => (e0.bs b o z).1
  have KX : K.In st.heap := e0.mod.kin.keeps up
  refine codeAny_call_function hr.room.depth (KX _ _ lk) rfl S.co S.gen rfl (PySem.W.codeRec_of KX hcd) (hb _ _ _ _ (wpAny_newFunctionEnv_cells S.kind (fun y hy => ?_) fun env he st1 z => ?_))
  · rcases S.par y.1 (List.of_mem_zip (a := y.1) (b := y.2) hy).1 with q | q
    · exact .inl q
    · exact .inr ⟨q, PySem.W.cellsFrom_some _ _ _ (.inl q)⟩
  · subst he
    obtain ⟨t, ht, hq⟩ := hbody cdv A outer st H vs Q E (hr.deeper _) hsp
    have I : Inv (cxOf (L2.CX P w) P w K mg base N qual (defScope d) f cdv A outer st H E) [] (start N vs) H st1 := inv_start S hr.room.hd e0 (many _ _ _ _ hsp) r z
    refine ⟨(e0.mod.nolimit.keeps up).keeps z.toInCall.keep, codeAny_func (wpAny_mono (ht.run [] st1 (start N vs) H _ I hq) ?_ fun _ _ hs => hs)⟩
    intro fl st' hs
    match fl, hs with
    | .ret u, ⟨v, _, H', J, rv, q⟩ => exact ⟨v, H', J.os, J.bare, J.base, J.hok, rv, q⟩
    | .next, ⟨_, H', J, q⟩ => exact ⟨V.non, H', J.os, J.bare, J.base, J.hok, rfl, q⟩
    | .brk, ⟨_, _, _, q⟩ => exact q.elim
    | .cont, ⟨_, _, _, q⟩ => exact q.elim
end
/-! ### the end: the law is called where nothing is being written out -/
theorem quiet_caller {k : Nat} (h : Room k callerA) : RoomG k callerA := ⟨h, rfl⟩
section
variable {P : Program} {w : World} {K : PySem.W.Frag} {mg mb : Str → Option Value} {k : Nat} {fa a : Addr} {fd : FuncData} {x : Str} {sp : Sp} {s1 : Shared} {us : List Value} {ns : List Int}
def LawEnd (s1 : Shared) (r : Result) (s2 : Shared) : Prop := r = .ok (.ret (.bool true)) ∧ OldK s1.heap s2.heap ∧ s2.os = s1.os ∧ AllBare s2.gens
theorem law_from {H : Hp} (KX : K.In s1.heap) (G1 : s1.heap.Ns mainGlobals mg) (G2 : s1.heap.Ns builtinsNs mb) (G3 : ∀ x : Str, x ≠ "__name__" → mb x = bootBuiltins x) (G4 : s1.heap.NoLimit) (G5 : s1.gens = #[])
    (scr : s1.heap.get? a = some { cls := .type "list", data := .seq us.toArray }) (hr : Room k callerA) (F : ∀ base : Heap, K.In base → base.Ns mainGlobals mg → FnG P w K mg base (L2.CX P w) k fa fd [x] sp)
    (bi : ∀ (st : Shared) (u : Value), BindsTo st fd ⟨[u], []⟩ [(x, u)]) (on : Only H) (pr : sp [.ref a] H (fun v _ => v = .bl true) fun _ _ _ => False) (hok : HOk P w H s1.heap) (one : ∀ b, H b ≠ none → b = a) (out : H a ≠ none → K.lookup a = none) :
    codeAny (model P w) callerA (.call (.ref fa) ⟨[.ref a], []⟩) (LawEnd s1) s1 := by
  have free : ∀ b, b ≠ a → H b = none := fun b nb => Classical.byContradiction fun z => nb (one b z)
  have stays : ∀ (b : Addr) (m : Str → Option Value), s1.heap.Ns b m → (hidT s1.heap H).Ns b m := by
    rintro b m ⟨o, es, ep, e, d, r⟩
    refine ⟨o, es, ep, hidT_get e (free b ?_), d, r⟩
    rintro rfl
    rw [scr] at e
    cases e
    exact absurd d (by intro z; cases z)
  have K1 : K.In (hidT s1.heap H) := fun b o e => hidT_get (KX b o e) (Classical.byContradiction fun z => by
    have := one b z
    subst this
    rw [out z] at e
    cases e)
  obtain ⟨mc, l1, l2⟩ := G4
  have e0 : Env0 P w K mg (hidT s1.heap H) callerA [] s1 H := ⟨rfl, ⟨K1, stays _ _ G1, ⟨mb, stays _ _ G2, G3⟩, ⟨mc, stays _ _ l1, l2⟩⟩, fun _ _ e => of_hidT e, Nat.le_of_eq (hidT_size _ _), trivial, fun _ hb => (by cases hb), hok, .of_eq G5⟩
  refine codeAny_mono ((F _ K1 (stays _ _ G1)).goes callerA [] s1 H ⟨[.ref a], []⟩ [.ref a] [.ref a] _ _ (quiet_caller hr) e0 (bi s1 (.ref a)) (.cons rfl .nil) pr) ?_
  intro r s2 h
  match r, h with
  | .error _, h =>
    obtain ⟨_, _, _, _, _, _, _, _, _, _, _, _, z⟩ := h
    exact z.elim
  | .ok .next, h => exact h.elim
  | .ok .brk, h => exact h.elim
  | .ok .cont, h => exact h.elim
  | .ok (.ret u), ⟨v, H2, os, bare, un, hok2, rv, q⟩ =>
    have q : v = .bl true := q
    subst q
    have rv : u = Value.bool true := rv
    subst rv
    refine ⟨rfl, OldK.of_keep fun b o e => ?_, os, bare⟩
    rcases on b with z | ⟨ob, xs, z⟩
    · exact un.keep b o e z (fun y => by cases y) (fun y => by cases y)
    · have g1 := (hok b _ z).1
      rw [e] at g1
      cases g1
      exact (hok2 b _ (un.frzs b _ _ z)).1
theorem law_goes (KX : K.In s1.heap) (G1 : s1.heap.Ns mainGlobals mg) (G2 : s1.heap.Ns builtinsNs mb) (G3 : ∀ x : Str, x ≠ "__name__" → mb x = bootBuiltins x) (G4 : s1.heap.NoLimit) (G5 : s1.gens = #[])
    (scr : s1.heap.get? a = some { cls := .type "list", data := .seq us.toArray }) (hi : IntsAre us ns) (hl : ns.length ≤ sizeLine) (hr : Room k callerA) (F : ∀ base : Heap, K.In base → base.Ns mainGlobals mg → FnG P w K mg base (L2.CX P w) k fa fd [x] sp)
    (bi : ∀ (st : Shared) (u : Value), BindsTo st fd ⟨[u], []⟩ [(x, u)]) (pr : ∀ H : Hp, Only H → SqL K H a (ns.map V.int) → sp [.ref a] H (fun v _ => v = .bl true) fun _ _ _ => False) :
    codeAny (model P w) callerA (.call (.ref fa) ⟨[.ref a], []⟩) (LawEnd s1) s1 := by
  have rv := vals_ints hi
  have no : ∀ {H : Hp}, (∀ b, H b = none) → Only H := fun h b => .inl (h b)
  cases hk : K.lookup a with
  | some o =>
    have e := KX a o hk
    rw [scr] at e
    cases e
    have lay : SqL K (fun _ => none) a (ns.map V.int) := .inr ⟨_, us.toArray, _, hk, rfl, rfl, rfl, by rw [List.size_toArray, hi.length]; exact hl, by simpa using rv⟩
    exact law_from (H := fun _ => none) KX G1 G2 G3 G4 G5 scr hr F bi (no fun _ => rfl) (pr _ (no fun _ => rfl) lay) (fun _ _ z => by cases z) (fun _ z => absurd rfl z) fun z => absurd rfl z
  | none =>
    obtain ⟨H, eH⟩ : ∃ H : Hp, H = upd (fun _ => none) a (.frz { cls := .type "list", data := .seq us.toArray } (.lst (ns.map V.int))) := ⟨_, rfl⟩
    have at_a : H a = some (.frz { cls := .type "list", data := .seq us.toArray } (.lst (ns.map V.int))) := by rw [eH, upd_same]
    have at_n : ∀ b, b ≠ a → H b = none := fun b nb => by rw [eH, upd_ne nb]
    have on : Only H := fun b => by
      by_cases hb : b = a
      · subst hb; exact .inr ⟨_, _, at_a⟩
      · exact .inl (at_n b hb)
    refine law_from KX G1 G2 G3 G4 G5 scr hr F bi on (pr H on (.inl (.inr ⟨_, at_a⟩))) (fun b u z => ?_) (fun b z => Classical.byContradiction fun nb => z (at_n b nb)) fun _ => hk
    by_cases hb : b = a
    · subst hb
      rw [at_a] at z
      cases z
      exact ⟨scr, by rw [List.length_map]; exact hl, us, _, rv, scr⟩
    · rw [at_n b hb] at z
      cases z
end
end DL

/-! DL10: calls of the program's own defs; a def -/
noncomputable section
namespace DL
open PySem L2 PyProof.Rows
open Evl (Ex)
structure FStp (G : Hp) (w : Pw) (H : Hp) (G' : Hp) (w' : Pw) (H' : Hp) : Prop where
  ex : Ex G G'
  gh : Ex G' H'
  keep : ∀ a o, H a = some o → ¬ POwn w a → H' a = some o ∧ G' a = G a
  own : ∀ a, POwn w' a → POwn w a ∨ H a = none
  dom : ∀ a, H a ≠ none → H' a ≠ none
  pw : ∀ a, POwn w a → POwn w' a
def FRel (K : PySem.W.Frag) (H G' : Hp) (w' : Pw) (H' : Hp) (v : V) : R → Prop
  | .val d => Rp K G' v d
  | .raw u => v = u
  | .ob o => ObRel K G' v o
  | .slot _ => False
  | .new ds => ∃ a xs, v = .ref a ∧ H' a = some (.lst xs) ∧ RpAll K G' xs ds ∧ G' a = none ∧ H a = none ∧ ¬ POwn w' a
def spF (K : PySem.W.Frag) (cl : String → Addr) (F : List R → Pw → FRes) : Sp := fun vs H Q E => ∃ (G : Hp) (rs : List R) (w : Pw), Ex G H ∧ Paired (AR K G) vs rs ∧ PwOk G w H ∧ match F rs w with
  | .ok r w' => ∀ v G' H', FStp G w H G' w' H' → PwOk G' w' H' → FRel K H G' w' H' v r → Q v H'
  | .err x w' => ∀ cls d G' H', FStp G w H G' w' H' → PwOk G' w' H' → XRel K cl x cls d G' → E cls d H'
  | .stuck => False
def fUser (F : List R → Pw → FRes) (fs : M (List R)) : M R := bnd fs fun rs s => match F rs s.w with
  | .ok r w' => .ok r { s with w := w' }
  | .err x w' => .err x { s with w := w' }
  | .stuck => .stuck
section
variable {K : PySem.W.Frag} {G H G' H' : Hp} {s : DSt} {σ : L2.St} {w' : Pw}
theorem call_stp (S : SA K G s σ H) (f : FStp G s.w H G' w' H') (pw : PwOk G' w' H') : Stp G s σ H G' { s with w := w' } σ H' ∧ SA K G' { s with w := w' } σ H' := by
  have own : ∀ i a, OwnAt s σ i a → H a ≠ none ∧ ¬ POwn s.w a := fun i a z => ⟨by obtain ⟨xs, e⟩ := S.ownL z; rw [e]; simp, S.pne i a z⟩
  refine ⟨⟨f.ex, fun a o h n => f.keep a o h fun z => n (.inr z), fun a z => ?_, f.dom, f.pw⟩, ⟨S.len, f.gh, fun i sl h => ?_, S.inj, fun i a z => ?_, pw, fun i a z q => ?_⟩⟩
  · rcases z with z | z
    · exact .inl (.inl z)
    · exact (f.own a z).imp .inr id
  · have q := S.slot i sl h
    cases sl with
    | no => trivial
    | val d => obtain ⟨v, e, hd⟩ := q; exact ⟨v, e, dp_mono f.ex _ _ hd⟩
    | raw v => exact q
    | ob o => obtain ⟨v, e, hd⟩ := q; exact ⟨v, e, ob_mono f.ex hd⟩
    | own es =>
      obtain ⟨a, xs, e, ha, hh⟩ := q
      have e' : σ[i]? = some (some (.ref a)) := by
        cases z : σ[i]? with
        | none => rw [z] at e; cases e
        | some o => rw [z] at e; simp at e; rw [e]
      exact ⟨a, xs, e, (f.keep a _ ha (own i a ⟨⟨es, h⟩, e'⟩).2).1, dps_mono f.ex _ _ hh⟩
  · obtain ⟨xs, e⟩ := S.ownL z
    rw [(f.keep a _ e (own i a z).2).2]
    exact S.ownG i a z
  · rcases f.own a q with q | q
    · exact (own i a z).2 q
    · exact (own i a z).1 q
end
section
variable {X : Cx} {cl : String → Addr} {W : WX} {e : Expr} {es : List Expr} {fs : M (List R)} {pos : Pos}
theorem user_reads {K : PySem.W.Frag} {F : List R → Pw → FRes} {σ : L2.St} {H : Hp} {Q : VK} (q : tD K cl W (fUser F fs) σ H Q) : tCallS (spF K cl F) (WE W) (tAe K cl W fs) σ H Q := by
  obtain ⟨G, s, S, q⟩ := q
  refine ⟨G, s, S, out_mono (out_bind q) fun rs G1 s1 H1 st1 S1 k vs hv => ⟨G1, rs, s1.w, S1.gh, hv, S1.pw, ?_⟩⟩
  cases z : F rs s1.w with
  | ok r w' =>
    rw [z] at k
    intro v G' H' f pw fr
    obtain ⟨st, S'⟩ := call_stp S1 f pw
    refine k G' H' st S' v ?_
    cases r with
    | val d => exact fr
    | raw u => exact fr
    | ob o => exact fr
    | slot i => exact fr.elim
    | new ds =>
      obtain ⟨a, xs, e, ha, hd, hg, h0, hn⟩ := fr
      refine ⟨a, xs, e, ha, hd, hg, Classical.byContradiction fun z => st1.dom a z h0, fun z => ?_⟩
      rcases z with ⟨i, z⟩ | z
      · obtain ⟨ys, e2⟩ := S1.ownL z
        rw [h0] at e2; cases e2
      · exact hn z
  | err x w' =>
    rw [z] at k
    intro cls d G' H' f pw xr
    obtain ⟨st, S'⟩ := call_stp S1 f pw
    exact k cls d G' H' st S' xr
  | stuck => rw [z] at k; exact k
theorem d_user {F : List R → Pw → FRes} {k : Nat} {f : Addr} {fd : FuncData} {ps : List Str} {x : Str} {p : Pos} (hF : FnG X.prog X.w X.K X.mg X.base (L2.CX X.prog X.w) k f fd ps (spF X.K cl F)) (hr : RoomG k X.A) (hg : Gl X x) (hm : X.mg x = some (.ref f)) (hk : PySem.W.keepIn X.K (.ref f) = true) (hb : Binds X.K fd ps [])
    (hx : ∀ σ, PassesAt (L2.CX X.prog X.w) X σ (WE W σ)) (ha : DAe X cl W (e :: es) fs) (hdb : (x == ("__debug__" : Str)) = false := by decide) (he : starEach (e :: es) X.env = (false, eval e X.env) :: starEach es X.env := by rfl) (hpl : (backTo pos (starEach es X.env)).any (·.1) = false := by rfl) :
    DE X cl W (.Call (.Name x p) (e :: es) [] pos) (fUser F fs) := pe_imp (pe_callG hF hr hg hm hk hb hx ha hdb he hpl) fun σ H Q q => user_reads q
theorem passA0 {X : Cx} (σ : L2.St) : PassesAt (L2.CX X.prog X.w) X σ (WE W0 σ) := fun _ _ _ _ _ _ h => by
  obtain ⟨_, _, _, _, _, _, _, _, _, _, _, _, z⟩ := h
  exact z.elim
end
/-! ### a def -/
def toSl : R → Sl
  | .val d => .val d
  | .raw v => .raw v
  | .ob o => .ob o
  | _ => .no
def finR (r : R) (s : DSt) : Option R := match r with
  | .slot i => match s.d[i]? with
    | some (.own ds) => some (.new ds)
    | some (.val d) => some (.val d)
    | _ => none
  | r => some r
def runF (n nps : Nat) (p : DSt → Flow) : List R → Pw → FRes := fun rs w => if rs.length = nps then match p ⟨rs.map toSl ++ List.replicate (n - nps) .no, w⟩ with
  | .next s => .ok (.val .none) s.w
  | .ret r s => match finR r s with
    | some r' => .ok r' s.w
    | none => .stuck
  | .err x s => .err x s.w
  | _ => .stuck
  else .stuck
section
variable {K : PySem.W.Frag} {cl : String → Addr}
theorem pair_len {G : Hp} : ∀ {vs : List V} {rs : List R}, Paired (AR K G) vs rs → vs.length = rs.length
  | _, _, .nil => rfl
  | _, _, .cons _ t => by simp [pair_len t]
theorem pair_get {G : Hp} : ∀ {vs : List V} {rs : List R} {i : Nat} {r : R}, Paired (AR K G) vs rs → rs[i]? = some r → ∃ v, vs[i]? = some v ∧ AR K G v r
  | _, _, _, _, .nil, e => by simp at e
  | _, _, 0, r, .cons h t, e => by simp at e; subst e; exact ⟨_, rfl, h⟩
  | _, _, i + 1, r, .cons h t, e => by simpa using pair_get (i := i) t (by simpa using e)
theorem start_sa {G H : Hp} {N : List Str} {vs : List V} {rs : List R} {w : Pw} {nps : Nat} (gh : Ex G H) (hv : Paired (AR K G) vs rs) (pw : PwOk G w H) (hn : rs.length = nps) (hN : nps ≤ N.length) : SA K G ⟨rs.map toSl ++ List.replicate (N.length - nps) .no, w⟩ (L2.start N vs) H := by
  have hl := pair_len hv
  have no : ∀ (i : Nat) ds, (rs.map toSl ++ List.replicate (N.length - nps) Sl.no)[i]? ≠ some (.own ds) := by
    intro i ds e
    rw [List.getElem?_append] at e
    split at e
    · rw [List.getElem?_map] at e
      cases q : rs[i]? with
      | none => rw [q] at e; cases e
      | some r => rw [q] at e; cases r <;> cases e
    · rw [List.getElem?_replicate] at e
      split at e <;> cases e
  refine ⟨by simp [L2.start, hl]; omega, gh, fun i sl h => ?_, fun i j a h _ => ?_, fun i a h => ?_, pw, fun i a h => ?_⟩
  · cases sl with
    | no => trivial
    | own ds => exact (no i ds h).elim
    | val d =>
      simp only [List.getElem?_append] at h
      split at h
      · rename_i hi
        rw [List.getElem?_map] at h
        cases q : rs[i]? with
        | none => rw [q] at h; cases h
        | some r =>
          rw [q] at h
          obtain ⟨v, e, ar⟩ := pair_get hv q
          have hi' : i < (vs.map some).length := by simp at hi ⊢; omega
          cases r with
          | val d' =>
            cases h
            refine ⟨v, ?_, ar⟩
            simp only [L2.start, List.getElem?_append, hi', if_true, List.getElem?_map, e]
            rfl
          | raw u => cases h
          | ob u => cases h
          | new u => cases h
          | slot u => cases h
      · rw [List.getElem?_replicate] at h
        split at h <;> cases h
    | ob d =>
      simp only [List.getElem?_append] at h
      split at h
      · rename_i hi
        rw [List.getElem?_map] at h
        cases q : rs[i]? with
        | none => rw [q] at h; cases h
        | some r =>
          rw [q] at h
          obtain ⟨v, e, ar⟩ := pair_get hv q
          have hi' : i < (vs.map some).length := by simp at hi ⊢; omega
          cases r with
          | ob d' =>
            cases h
            refine ⟨v, ?_, ar⟩
            simp only [L2.start, List.getElem?_append, hi', if_true, List.getElem?_map, e]
            rfl
          | raw u => cases h
          | val u => cases h
          | new u => cases h
          | slot u => cases h
      · rw [List.getElem?_replicate] at h
        split at h <;> cases h
    | raw u =>
      simp only [List.getElem?_append] at h
      split at h
      · rename_i hi
        rw [List.getElem?_map] at h
        cases q : rs[i]? with
        | none => rw [q] at h; cases h
        | some r =>
          rw [q] at h
          obtain ⟨v, e, ar⟩ := pair_get hv q
          have hi' : i < (vs.map some).length := by simp at hi ⊢; omega
          cases r with
          | raw u' =>
            cases h
            have ar : v = _ := ar
            subst ar
            show (L2.start N vs)[i]?.join = _
            simp only [L2.start, List.getElem?_append, hi', if_true, List.getElem?_map, e]
            rfl
          | val u => cases h
          | ob u => cases h
          | new u => cases h
          | slot u => cases h
      · rw [List.getElem?_replicate] at h
        split at h <;> cases h
  · obtain ⟨⟨ds, e⟩, _⟩ := h; exact (no i ds e).elim
  · obtain ⟨⟨ds, e⟩, _⟩ := h; exact (no i ds e).elim
  · obtain ⟨⟨ds, e⟩, _⟩ := h; exact (no i ds e).elim
theorem start_own {rs : List R} {n : Nat} {w : Pw} {σ : L2.St} {a : Addr} (h : Own ⟨rs.map toSl ++ List.replicate n .no, w⟩ σ a) : POwn w a := by
  rcases h with ⟨i, ⟨ds, e⟩, _⟩ | h
  · exfalso
    simp only [List.getElem?_append] at e
    split at e
    · rw [List.getElem?_map] at e
      cases q : rs[i]? with
      | none => rw [q] at e; cases e
      | some r => rw [q] at e; cases r <;> cases e
    · rw [List.getElem?_replicate] at e
      split at e <;> cases e
  · exact h
theorem fstp_of {G H G' H' : Hp} {rs : List R} {n : Nat} {w : Pw} {σ σ' : L2.St} {s' : DSt} (st : Stp G ⟨rs.map toSl ++ List.replicate n .no, w⟩ σ H G' s' σ' H') (S' : SA K G' s' σ' H') : FStp G w H G' s'.w H' :=
  ⟨st.ex, S'.gh, fun a o h nw => st.keep a o h fun z => nw (start_own z), fun a z => (st.own a (.inr z)).imp start_own id, st.dom, st.pw⟩
theorem def_ok {P : Program} {w : World} {mg : Str → Option Value} {base : Heap} {x qual : Str} {st : Stmt} {f : Addr} {fd : FuncData} {N ps : List Str} {k : Nat} {p : DSt → Flow} (F : Fun K x qual st f fd) (S : FnScope N ps (defScope st)) (hN : ps.length ≤ N.length)
    (hb : ∀ (cdv : Value) (A : Around) (outer : List Env) (s : Shared) (H : Hp) (E : XK), RoomG k (A.deeper (envOfC qual (defScope st) s.heap.objs.size f cdv)) →
      DSs (cxOf (L2.CX P w) P w K mg base N qual (defScope st) f cdv A outer s H E) cl (fun cls d _ H => E cls d H) (defBody st) p) : FnG P w K mg base (L2.CX P w) (k + 1) f fd ps (spF K cl (runF N.length ps.length p)) := by
  have hlen : ∀ {rs : List R} {w : Pw}, (match runF N.length ps.length p rs w with | .stuck => False | _ => True) → rs.length = ps.length := by
    intro rs w h
    unfold runF at h
    split at h
    · exact h.elim
    · rename_i z
      by_cases q : rs.length = ps.length
      · exact q
      · rw [if_neg q] at z; exact absurd rfl z
  refine okG F S (fun vs H Q E h => ?_) fun cdv A outer s H vs Q E hr h => ⟨_, hb cdv A outer s H E hr, ?_⟩
  · obtain ⟨G, rs, w, gh, hv, pw, k⟩ := h
    rw [pair_len hv]
    refine hlen (w := w) ?_
    cases z : runF N.length ps.length p rs w with
    | ok r w' => trivial
    | err x w' => trivial
    | stuck => rw [z] at k; exact k
  · obtain ⟨G, rs, w, gh, hv, pw, k⟩ := h
    have hn : rs.length = ps.length := by
      refine hlen (w := w) ?_
      cases z : runF N.length ps.length p rs w with
      | ok r w' => trivial
      | err x w' => trivial
      | stuck => rw [z] at k; exact k
    refine ⟨G, ⟨rs.map toSl ++ List.replicate (N.length - ps.length) .no, w⟩, show SA K G _ (L2.start N vs) H from start_sa gh hv pw hn hN, ?_⟩
    unfold runF at k
    rw [if_pos hn] at k
    cases z : p ⟨rs.map toSl ++ List.replicate (N.length - ps.length) .no, w⟩ with
    | next s' => rw [z] at k; exact fun G' σ' H' st S' => k .non G' H' (fstp_of st S') S'.pw .non
    | brk s' => rw [z] at k; exact k.elim
    | cnt s' => rw [z] at k; exact k.elim
    | stuck => rw [z] at k; exact k.elim
    | err x s' => rw [z] at k; exact fun cls d G' σ' H' st S' xr => k cls d G' H' (fstp_of st S') S'.pw xr
    | ret r s' =>
      rw [z] at k
      intro v G' σ' H' st S' rr
      cases r with
      | val d => exact k v G' H' (fstp_of st S') S'.pw rr
      | raw u => exact k v G' H' (fstp_of st S') S'.pw rr
      | ob o => exact k v G' H' (fstp_of st S') S'.pw rr
      | new ds =>
        refine k v G' H' (fstp_of st S') S'.pw ?_
        obtain ⟨a, xs, e, ha, hd, hg, h0, hn⟩ := rr
        exact ⟨a, xs, e, ha, hd, hg, h0, fun z => hn (.inr z)⟩
      | slot i =>
        have rr : σ'[i]? = some (some v) := rr
        dsimp only [finR] at k
        cases q : s'.d[i]? with
        | none => rw [q] at k; exact k.elim
        | some sl =>
          rw [q] at k
          cases sl with
          | no => exact k.elim
          | raw u => exact k.elim
          | ob o => exact k.elim
          | val d =>
            refine k v G' H' (fstp_of st S') S'.pw ?_
            obtain ⟨u, e, hd⟩ := S'.slot i _ q
            rw [rr] at e
            cases e
            exact hd
          | own ds =>
            refine k v G' H' (fstp_of st S') S'.pw ?_
            obtain ⟨a, xs, e, ha, hd⟩ := S'.slot i _ q
            rw [rr] at e
            cases e
            have ho : OwnAt s' σ' i a := ⟨⟨ds, q⟩, rr⟩
            refine ⟨a, xs, rfl, ha, hd, S'.ownG i a ho, ?_, S'.pne i a ho⟩
            rcases st.own a (.inl ⟨i, ho⟩) with z | z
            · have z := start_own z
              exact absurd (st.pw a z) (S'.pne i a ho)
            · exact z
end
end DL

/-! DL11: methods of lists, isinstance, small statements -/
noncomputable section
namespace DL
open PySem L2 PyProof.Rows
open Evl (Ex)
section
variable {K : PySem.W.Frag} {G H : Hp} {s : DSt} {σ : L2.St}
theorem own_write {i : Nat} {ds ds' : List PyData} {a : Addr} {xs' : List V} (S : SA K G s σ H) (h : s.d[i]? = some (.own ds)) (e : σ[i]? = some (some (.ref a))) (hd : RpAll K G xs' ds') :
    Stp G s σ H G (putS i (.own ds') s) σ (upd H a (.lst xs')) ∧ SA K G (putS i (.own ds') s) σ (upd H a (.lst xs')) := by
  have il : i < s.d.length := (List.getElem?_eq_some_iff.mp h).1
  have ho : OwnAt s σ i a := ⟨⟨ds, h⟩, e⟩
  have hg := S.ownG i a ho
  have od : ∀ j b, OwnAt (putS i (.own ds') s) σ j b → OwnAt s σ j b := by
    rintro j b ⟨⟨es, q⟩, z⟩
    by_cases w : j = i
    · subst w; exact ⟨⟨ds, h⟩, z⟩
    · simp only [putS, List.getElem?_set_ne (Ne.symm w)] at q; exact ⟨⟨es, q⟩, z⟩
  have ow : ∀ b, Own (putS i (.own ds') s) σ b → Own s σ b := fun b z => z.imp (fun ⟨j, z⟩ => ⟨j, od j b z⟩) id
  refine ⟨⟨Ex.refl G, fun b o hb nb => ⟨?_, rfl⟩, fun b z => .inl (ow b z), fun b hb => ?_, fun _ z => z⟩, ⟨by simp [putS, S.len], fun b u hb => ?_, fun j sl hj => ?_, fun j k b h1 h2 => S.inj j k b (od j b h1) (od k b h2), fun j b z => S.ownG j b (od j b z), ?_, fun j b z => S.pne j b (od j b z)⟩⟩
  · rw [upd_ne fun z => nb (by subst z; exact .inl ⟨i, ho⟩)]; exact hb
  · by_cases z : b = a
    · subst z; rw [upd_same]; simp
    · rw [upd_ne z]; exact hb
  · rw [upd_ne fun z => by subst z; rw [hg] at hb; cases hb]; exact S.gh b u hb
  · by_cases w : j = i
    · subst w
      simp only [putS, List.getElem?_set_self il] at hj
      cases hj
      exact ⟨a, xs', by rw [e] <;> rfl, upd_same, hd⟩
    · simp only [putS, List.getElem?_set_ne (Ne.symm w)] at hj
      have q := S.slot j sl hj
      cases sl with
      | no => trivial
      | val d => exact q
      | raw v => exact q
      | ob o => exact q
      | own es =>
        obtain ⟨b, ys, e2, hb, hh⟩ := q
        refine ⟨b, ys, e2, ?_, hh⟩
        have e3 : σ[j]? = some (some (.ref b)) := by
          cases z : σ[j]? with
          | none => rw [z] at e2; cases e2
          | some o => rw [z] at e2; simp at e2; rw [e2]
        rw [upd_ne fun z => w (by subst z; exact S.inj j i b ⟨⟨es, hj⟩, e3⟩ ho)]
        exact hb
  · obtain ⟨ys, hy⟩ := S.ownL ho
    exact pwok_to S.pw (fun b o h z => by rw [upd_ne fun q => S.pne i a ho (by subst q; exact z)]; exact h) (fun b φ h => by rw [upd_ne fun q => by subst q; rw [hy] at h; cases h]; exact h) fun b z => G_pown S.pw z
theorem own_at {i : Nat} {ds : List PyData} (S : SA K G s σ H) (h : s.d[i]? = some (.own ds)) : ∃ a xs, σ[i]? = some (some (.ref a)) ∧ H a = some (.lst xs) ∧ RpAll K G xs ds := by
  obtain ⟨a, xs, e, ha, hd⟩ := S.slot i _ h
  refine ⟨a, xs, ?_, ha, hd⟩
  cases z : σ[i]? with
  | none => rw [z] at e; cases e
  | some o => rw [z] at e; simp at e; rw [e]
end
def isOwn (i : Nat) (s : DSt) : Bool := match s.d[i]? with
  | some (.own _) => true
  | _ => false
def fApp (i : Nat) (f : M R) : M R := fun s => if isOwn i s then bnd f (fun r => bnd (fEsc r) fun r' s' => match r', s'.d[i]? with
    | .val d, some (.own ds) => if ltS (ds.length) then .ok (.val .none) (putS i (.own (ds ++ [d])) s') else .stuck
    | _, _ => .stuck) s
  else .stuck
theorem isOwn_get {i : Nat} {s : DSt} (h : isOwn i s = true) : ∃ ds, s.d[i]? = some (.own ds) := by
  unfold isOwn at h
  split at h
  · exact ⟨_, by assumption⟩
  · cases h
section
variable {X : Cx} {cl : String → Addr} {W : WX} {e a b c : Expr} {es : List Expr} {f g : M R} {fs : M (List R)} {pos : Pos} {p q : DSt → Flow}
theorem d_append {i : Nat} {x : Expr} {ap cp : Pos} (hx : PE X x (tVar i)) (ha : DE X cl W e f) (hbase : attributeBase x "append" X.env (eval x X.env) = eval x X.env := by rfl)
    (hfew : ((backTo cp (starEach [e] X.env)).all (fun x => !x.1) && (backToKw cp (keywordEach [] X.env)).all (fun x => x.1.isSome) && decide (([e] : List Expr).length + ([] : List Keyword).length + (if ([] : List Keyword).isEmpty then 0 else 1) < 30)) = true := by rfl)
    (hline : (ap.endLine == cp.line) = true := by rfl) (hs : starEach [e] X.env = (false, eval e X.env) :: starEach [] X.env := by rfl) (hplain : (backTo cp (starEach [] X.env)).any (·.1) = false := by rfl) :
    DE X cl W (.Call (.Attribute x "append" ap) [e] [] cp) (fApp i f) := by
  refine pe_imp (pe_bm PySem.F.plainAttrs_list PySem.F.slot_list_append PySem.F.type_list_append mt_append hx (pa_cons ha pa_nil hs) hbase hfew hline hs hplain) fun σ H Q ⟨G, s, S, q⟩ => ?_
  unfold fApp at q
  split at q
  rotate_left
  · exact q.elim
  rename_i ho
  obtain ⟨ds0, h0⟩ := isOwn_get ho
  obtain ⟨l, xs0, el, hl0, _⟩ := own_at S h0
  refine ⟨.ref l, el, .inl ⟨rfl, _, .of hl0⟩, G, s, S, ?_⟩
  refine out_mono (out_esc q) fun r G1 s1 H1 st1 S1 k v rr => ?_
  obtain ⟨G2, s2, r2, st2, S2, ar, ex, k2⟩ := k v rr
  split at k2
  · rename_i d ds h2
    split at k2
    · rename_i hz
      obtain ⟨l2, xs, el2, hl2, hd2⟩ := own_at S2 h2
      rw [el] at el2
      cases el2
      obtain ⟨st3, S3⟩ := own_write S2 h2 el (dps_app hd2 (.cons ar .nil))
      exact ⟨l, xs, v, rfl, rfl, hl2, by rw [dps_len hd2]; exact hz, k2 _ _ st3 S3 _ .non⟩
    · exact k2.elim
  · exact k2.elim
def fPop (i : Nat) : M R := fun s => match s.d[i]? with
  | some (.own ds) => match ds[ds.length - 1]? with
    | some d => .ok (.val d) (putS i (.own ds.dropLast) s)
    | none => .stuck
  | _ => .stuck
def fPopAt (i : Nat) (f : M R) : M R := fun s => if isOwn i s then bnd f (fun r s' => match look r s', s'.d[i]? with
    | some (.int k), some (.own ds) => match ixN ds.length k with
      | some j => match ds[j]? with
        | some d => if inW k then .ok (.val d) (putS i (.own (ds.eraseIdx j)) s') else .stuck
        | none => .stuck
      | none => .stuck
    | _, _ => .stuck) s
  else .stuck
def fIns (i : Nat) (fs : M (List R)) : M R := fun s => if isOwn i s then bnd fs (fun rs s' => match rs, s'.d[i]? with
    | [.val (.int k), .val d], some (.own ds) => if 0 ≤ k ∧ inW k ∧ ltS (ds.length) then .ok (.val .none) (putS i (.own (ds.take k.toNat ++ [d] ++ ds.drop k.toNat)) s') else .stuck
    | _, _ => .stuck) s
  else .stuck
def fRem (i : Nat) (f : M R) : M R := fun s => if isOwn i s then bnd f (fun r s' => match look r s', s'.d[i]? with
    | some (.int k), some (.own ds) => match intsD ds with
      | some ns => match ns.findIdx? (· == k) with
        | some j => .ok (.val .none) (putS i (.own ((ns.eraseIdx j).map .int)) s')
        | none => .stuck
      | none => .stuck
    | _, _ => .stuck) s
  else .stuck
def fClear (i : Nat) : M R := fun s => match s.d[i]? with
  | some (.own ds) => .ok (.val .none) (putS i (.own []) s)
  | _ => .stuck
def flatD : PyData → Bool
  | .none | .bool _ | .int _ | .str _ => true
  | _ => false
def idxO (ds : List PyData) (d : PyData) : Option Nat := if ds.all flatD && flatD d then ds.findIdx? (fun z => PyData.eqv z d) else none
def isLst (x : R) (s : DSt) : Bool := match look x s with
  | some (.list _) => true
  | _ => false
def fIndex (g f : M R) : M R := bnd g fun x s => if isLst x s then bnd f (fun r s => match look x s, look r s with
  | some (.list ds), some d => match idxO ds d with
    | some j => .ok (.val (.int (j : Nat))) s
    | none => .stuck
  | _, _ => .stuck) s
  else .stuck
def tyN : PyData → String
  | .none => "NoneType" | .bool _ => "bool" | .int _ => "int" | .str _ => "str" | .list _ => "list" | .tuple _ => "tuple" | .dict _ => "dict"
theorem ty_of {K : PySem.W.Frag} {G H : Hp} {v : V} {d : PyData} (x : Ex G H) (h : Dq K G H v d) : TyX K H v (.type (tyN d)) := by
  cases d with
  | none => cases (show Rp K G v .none from h); exact .base .non
  | bool b => obtain rfl := dq_bl h; exact .base (.bl b)
  | int b => obtain rfl := dq_int h; exact .base (.int b)
  | str b => obtain rfl := dq_str h; exact .base (.str b)
  | list ds => obtain ⟨p, xs, rfl, hp, _⟩ := dq_lst h; exact .base (.lst hp)
  | tuple ds =>
    obtain ⟨p, xs, rfl, hp, _⟩ := dq_tup x h
    rcases hp with (hp | ⟨o, hp⟩) | ⟨o, its, n, hk, hc, _⟩
    · exact .base (.tup hp)
    · exact .fTuple hp
    · exact .kTuple hk hc
  | dict kvs => cases (show Rp K G v (.dict kvs) from h)
def isN (n a : String) : Bool := n == a || (n == "int" && a == "bool")
def isT (n : String) (d : PyData) : Bool := isN n (tyN d)
def knownT (n : String) : Bool := ["int", "bool", "str", "list", "tuple"].contains n
theorem kit_tab : ∀ n ∈ ["int", "bool", "str", "list", "tuple"], ∀ a ∈ ["NoneType", "bool", "int", "str", "list", "tuple", "dict"], kitB a n = some (isN n a) := by decide +kernel
theorem kit_is {n : String} {d : PyData} (hn : knownT n = true) : kitB (tyN d) n = some (isT n d) :=
  kit_tab n (by simpa [knownT] using hn) _ (by cases d <;> simp [tyN])
def fIsi (n : String) (f : M R) : M R := bnd f fun r s => match look r s with
  | some d => .ok (.val (.bool (isT n d))) s
  | none => .stuck
theorem d_isi {n : Str} {m : String} {p p2 pos : Pos} (hn : knownT m = true) (hg : Gl X "isinstance") (hm : X.mg "isinstance" = none) (ha : DE X cl W e f) (hc : PE X (.Name n p2) (tC (.ty m)))
    (he : starEach (e :: [.Name n p2]) X.env = (false, eval e X.env) :: starEach [.Name n p2] X.env := by rfl) (he2 : starEach [.Name n p2] X.env = (false, eval (.Name n p2) X.env) :: starEach [] X.env := by rfl) (hpl : (backTo pos (starEach [.Name n p2] X.env)).any (·.1) = false := by rfl) :
    DE X cl W (.Call (.Name "isinstance" p) [e, .Name n p2] [] pos) (fIsi m f) := by
  refine pe_imp (pe_callB call_isi hg hm (by decide +kernel) (pa_cons ha (pa_cons hc pa_nil he2) he) (by decide) (by decide) he hpl) fun σ H Q ⟨G, s, S, q⟩ => ?_
  refine ⟨G, s, S, out_mono (out_bind q) fun x G1 s1 H1 st1 S1 k v rr => ?_⟩
  split at k
  · rename_i d e
    exact ⟨v, .ty m, .type (tyN d), .type m, isT m d, rfl, .ty m, ty_of S1.gh (look_q S1 rr e), kit_ty (kit_is hn), k G1 H1 Stp.refl S1 _ (.bl _)⟩
  · exact k.elim
def nubI (ns : List Int) : List Int := PyProof.Rows.firstMet (fun i => ns.getD i 0) ns.length
def fLenSet (f : M R) : M R := bnd f fun r s => match look r s with
  | some (.list ds) => match intsD ds with
    | some ns => if ns.length ≤ 4000 then .ok (.val (.int (nubI ns).length)) s else .stuck
    | none => .stuck
  | _ => .stuck
end
end DL

/-! DL12: more statements; a def by its name -/
noncomputable section
namespace DL
open PySem L2 PyProof.Rows
open Evl (Ex)
def Cal (P : Program) (w : World) (K : PySem.W.Frag) (mg : Str → Option Value) (base : Heap) (cl : String → Addr) (x : Str) (k : Nat) (ps : List Str) (F : List R → Pw → FRes) : Prop :=
  ∃ (f : Addr) (fd : FuncData), FnG P w K mg base (L2.CX P w) k f fd ps (spF K cl F) ∧ mg x = some (.ref f) ∧ PySem.W.keepIn K (.ref f) = true ∧ Binds K fd ps []
def Wr (K : PySem.W.Frag) (mg : Str → Option Value) (x : Str) (st : Stmt) (ps : List Str) : Prop := ∃ (f : Addr) (fd : FuncData), Fun K x x st f fd ∧ mg x = some (.ref f) ∧ Binds K fd ps []
theorem cal_of {P : Program} {w : World} {K : PySem.W.Frag} {mg : Str → Option Value} {base : Heap} {cl : String → Addr} {x : Str} {k : Nat} {N ps : List Str} {st : Stmt} {p : DSt → Flow} (h : Wr K mg x st ps) (S : FnScope N ps (defScope st)) (hN : ps.length ≤ N.length)
    (hb : ∀ (f : Addr) (cdv : Value) (A : Around) (outer : List Env) (s : Shared) (H : Hp) (E : XK), RoomG k (A.deeper (envOfC x (defScope st) s.heap.objs.size f cdv)) →
      DSs (cxOf (L2.CX P w) P w K mg base N x (defScope st) f cdv A outer s H E) cl (fun cls d _ H => E cls d H) (defBody st) p) : Cal P w K mg base cl x (k + 1) ps (runF N.length ps.length p) := by
  obtain ⟨f, fd, F, g, b⟩ := h
  exact ⟨f, fd, def_ok F S hN fun cdv A outer s H E hr => hb f cdv A outer s H E hr, g, F.kp, b⟩
section
variable {X : Cx} {cl : String → Addr} {W : WX} {e a b c : Expr} {es : List Expr} {f g : M R} {fs : M (List R)} {pos : Pos} {p q : DSt → Flow}
theorem d_cal {F : List R → Pw → FRes} {k : Nat} {ps : List Str} {x : Str} {p : Pos} (h : Cal X.prog X.w X.K X.mg X.base cl x k ps F) (hr : RoomG k X.A) (hx : ∀ σ, PassesAt (L2.CX X.prog X.w) X σ (WE W σ)) (ha : DAe X cl W (e :: es) fs) (hg : Gl X x := by rfl) (hdb : (x == ("__debug__" : Str)) = false := by decide)
    (he : starEach (e :: es) X.env = (false, eval e X.env) :: starEach es X.env := by rfl) (hpl : (backTo pos (starEach es X.env)).any (·.1) = false := by rfl) : DE X cl W (.Call (.Name x p) (e :: es) [] pos) (fUser F fs) := by
  obtain ⟨f, fd, ok, g, kp, b⟩ := h
  exact d_user ok hr hg g kp b hx ha hdb he hpl
def fAug (i : Nat) (o : Int → Int → Int) (f : M R) : DSt → Flow := fun s => match s.d[i]? with
  | some (.val (.int a)) => onRes (f s) fun r s' => match look r s' with
    | some (.int b) => if i < s'.d.length then .next (putS i (.val (.int (o a b))) s') else .stuck
    | _ => .stuck
  | _ => .stuck
theorem s_aug {i : Nat} {x : Str} {op : Operator} {o : Int → Int → Int} {pos' : Pos} (hN : X.N.Nodup) (hi : X.N[i]? = some x) (hx : Loc X.env.scope x) (he : DE X cl W e f) (ho : PIp X op (ipI o)) (hf : X.fn x = true ∨ X.env.scope.names.lookup x = some .local := by first | exact .inl rfl | exact .inr rfl | assumption) :
    DS X cl W (.AugAssign (.Name x pos') op e pos) (fAug i o f) := by
  refine ps_imp (ps_aug hN hi hx he ho hf) fun D σ H ⟨G, s, S, h⟩ => ?_
  unfold fAug at h
  split at h
  · rename_i a q
    obtain ⟨v, e1, hd⟩ := S.slot i _ q
    cases hd
    have e2 : σ[i]? = some (some (.int a)) := by
      cases z : σ[i]? with
      | none => rw [z] at e1; cases e1
      | some o => rw [z] at e1; simp at e1; rw [e1]
    refine ⟨_, e2, G, s, S, out_mono (fout_res h) fun r G1 s1 H1 st1 S1 k v rr => ?_⟩
    split at k
    · rename_i b e3
      obtain rfl := dq_int (look_q S1 rr e3)
      split at k
      · rename_i hl
        exact ⟨a, b, rfl, rfl, k G1 _ H1 (put_stp S1 st1 hl (by intro _ _ z; cases z)) (put_ok S1 hl ⟨_, rfl, .int _⟩ (by intro _ _ z; cases z))⟩
      · exact k.elim
    · exact k.elim
  · exact h.elim
def fSetIx (i : Nat) (f g : M R) : DSt → Flow := fun s => onRes (bnd f fEsc s) fun r s1 => if isOwn i s1 then onRes (g s1) fun k s2 => match r, look k s2, s2.d[i]? with
    | .val d, some (.int n), some (.own ds) => match ixN ds.length n with
      | some j => .next (putS i (.own (ds.set j d)) s2)
      | none => .stuck
    | _, _, _ => .stuck
  else .stuck
def fPar (i j : Nat) (fs : M (List R)) : DSt → Flow := fun s => onRes (fs s) fun rs s' => match rs with
  | [r1, r2] => if i < s'.d.length ∧ j < s'.d.length then .next (putS j (toSl r2) (putS i (toSl r1) s')) else .stuck
  | _ => .stuck
def bSeq (n : Nat) (bs : Bds) : Bd := fun d s => match d with
  | .tuple ds => if ds.length = n then bs ds s else none
  | .list ds => if ds.length = n then bs ds s else none
  | _ => none
end
end DL

/-! DL13: the purse: a list of a list of ints and an int, changed by the def that draws -/
noncomputable section
namespace DL
open PySem L2 PyProof.Rows
open Evl (Ex)
section
variable {K : PySem.W.Frag} {G H : Hp} {s : DSt} {σ : L2.St} {pa ca : Addr} {cells : List Int} {t : Int}
theorem pwA_ne (h : pa ≠ ca) : pwA pa ca cells t = [.ref ca, .int t] := if_neg h
theorem pwA_eq : pwA ca ca cells t = cells.map .int := if_pos rfl
theorem pw_get (S : SA K G s σ H) (e : s.w = some (pa, ca, cells, t)) : True ∧ H pa = some (.lst (pwA pa ca cells t)) ∧ H ca = some (.lst (cells.map .int)) ∧ G pa = none ∧ G ca = none := by
  have q := S.pw.1
  unfold PwOk0 at q
  rw [e] at q
  exact q
theorem pw_write {H' : Hp} {cells' : List Int} {t' : Int} (S : SA K G s σ H) (e : s.w = some (pa, ca, cells, t)) (h : ∀ a, a ≠ pa → a ≠ ca → H' a = H a) (h1 : H' pa = some (.lst (pwA pa ca cells' t'))) (h2 : H' ca = some (.lst (cells'.map .int))) :
    Stp G s σ H G { s with w := some (pa, ca, cells', t') } σ H' ∧ SA K G { s with w := some (pa, ca, cells', t') } σ H' := by
  obtain ⟨q1, q2, q3, q4, q5⟩ := pw_get S e
  have po : ∀ a, POwn s.w a ↔ ((a = pa ∨ a = ca) ∨ TOwn a) := fun a => by unfold POwn POwn0; rw [e] <;> exact Iff.rfl
  have tp : ∀ a, TOwn a → a ≠ pa ∧ a ≠ ca := fun a z => by
    obtain ⟨ps, hp⟩ := S.pw.2.h z
    exact ⟨fun q => (by subst q; rw [q2] at hp; cases hp), fun q => (by subst q; rw [q3] at hp; cases hp)⟩
  have np : ∀ i a, OwnAt s σ i a → a ≠ pa ∧ a ≠ ca := fun i a z => ⟨fun w => S.pne i a z ((po a).mpr (.inl (.inl w))), fun w => S.pne i a z ((po a).mpr (.inl (.inr w)))⟩
  refine ⟨⟨Ex.refl G, fun a o hb nb => ⟨?_, rfl⟩, fun a z => .inl ?_, fun a hb => ?_, fun a z => ?_⟩, ⟨S.len, fun a u hb => ?_, fun i sl hi => ?_, S.inj, S.ownG, ⟨⟨trivial, h1, h2, q4, q5⟩, S.pw.2.to (fun a o hb z => by rw [h a (tp a z).1 (tp a z).2]; exact hb) (fun a φ hb => by rw [h a (fun q => (by subst q; rw [q2] at hb; cases hb)) (fun q => (by subst q; rw [q3] at hb; cases hb))]; exact hb) fun a z => S.pw.2.g z⟩, fun i a z w => ?_⟩⟩
  · rw [h a (fun z => nb (.inr ((po a).mpr (.inl (.inl z))))) (fun z => nb (.inr ((po a).mpr (.inl (.inr z)))))]; exact hb
  · rcases z with z | z
    · exact .inl z
    · exact .inr ((po a).mpr z)
  · by_cases z : a = pa
    · subst z; rw [h1]; simp
    · by_cases z2 : a = ca
      · subst z2; rw [h2]; simp
      · rw [h a z z2]; exact hb
  · exact (po a).mp z
  · rw [h a (fun z => by subst z; rw [q4] at hb; cases hb) (fun z => by subst z; rw [q5] at hb; cases hb)]
    exact S.gh a u hb
  · have q := S.slot i sl hi
    cases sl with
    | no => trivial
    | val d => exact q
    | raw v => exact q
    | ob o => exact q
    | own es =>
      obtain ⟨a, xs, e1, ha, hh⟩ := q
      have e2 : σ[i]? = some (some (.ref a)) := by
        cases z : σ[i]? with
        | none => rw [z] at e1; cases e1
        | some o => rw [z] at e1; simp at e1; rw [e1]
      obtain ⟨n1, n2⟩ := np i a ⟨⟨es, hi⟩, e2⟩
      exact ⟨a, xs, e1, by rw [h a n1 n2]; exact ha, hh⟩
  · obtain ⟨n1, n2⟩ := np i a z
    rcases w with w | w
    · exact w.elim n1 n2
    · exact S.pne i a z ((po a).mpr (.inr w))
theorem raw_at {i : Nat} {v : V} (S : SA K G s σ H) (h : s.d[i]? = some (.raw v)) : σ[i]? = some (some v) := by
  have e : σ[i]?.join = some v := S.slot i _ h
  cases z : σ[i]? with
  | none => rw [z] at e; cases e
  | some o => rw [z] at e; simp at e; rw [e]
end
section
variable {X : Cx} {cl : String → Addr} {W : WX} {e a b c : Expr} {es : List Expr} {f g : M R} {fs : M (List R)} {pos : Pos} {p q : DSt → Flow}
def fUnP (i j k : Nat) : DSt → Flow := fun s => match s.d[i]?, s.w with
  | some (.raw (.ref p)), some (pa, ca, cells, t) => if p = pa ∧ pa ≠ ca ∧ j < s.d.length ∧ k < s.d.length then .next (putS k (.val (.int t)) (putS j (.raw (.ref ca)) s)) else .stuck
  | _, _ => .stuck
def fLenC (i : Nat) : M R := fun s => match s.d[i]?, s.w with
  | some (.raw (.ref c)), some (pa, ca, cells, t) => if c = ca then .ok (.val (.int cells.length)) s else .stuck
  | _, _ => .stuck
def fIxC (i : Nat) (f : M R) : M R := fun s => match s.d[i]? with
  | some (.raw (.ref c)) => bnd f (fun r s' => match s'.w, look r s' with
    | some (pa, ca, cells, t), some (.int n) => if c = ca then match atI cells n with
      | some z => .ok (.val (.int z)) s'
      | none => .stuck
      else .stuck
    | _, _ => .stuck) s
  | _ => .stuck
theorem atI_map {ns : List Int} {n z : Int} (h : atI ns n = some z) : atI (ns.map V.int) n = some (V.int z) := by
  unfold atI at h ⊢
  rw [List.length_map]
  cases q : ixN ns.length n with
  | none => rw [q] at h; cases h
  | some j =>
    rw [q] at h
    have h : ns[j]? = some z := h
    show (ns.map V.int)[j]? = _
    rw [List.getElem?_map, h]
    rfl
theorem d_ixC {i : Nat} {x : Expr} (hx : PE X x (tVar i)) (ha : DE X cl W e f) (hs : PlainIx e) : DE X cl W (.Subscript x e pos) (fIxC i f) := by
  refine pe_imp (pe_ix ix_seq hx ha hs) fun σ H Q ⟨G, s, S, q⟩ => ?_
  unfold fIxC at q
  split at q
  · rename_i c e1
    refine ⟨_, raw_at S e1, G, s, S, out_mono (out_bind q) fun r G1 s1 H1 st1 S1 k v rr => ?_⟩
    split at k
    · rename_i pa ca cells t n e2 e3
      split at k
      · rename_i hh
        subst hh
        split at k
        · rename_i z ez
          obtain rfl := dq_int (look_q S1 rr e3)
          obtain ⟨q1, q2, q3, q4, q5⟩ := pw_get S1 e2
          exact .inl ⟨c, _, n, _, rfl, rfl, .of q3, atI_map ez, k G1 H1 Stp.refl S1 _ (.int z)⟩
        · exact k.elim
      · exact k.elim
    · exact k.elim
  · exact q.elim
def fSetT (i : Nat) (f : M R) : DSt → Flow := fun s => onRes (f s) fun r s' => match s'.d[i]?, s'.w, look r s' with
  | some (.raw (.ref p)), some (pa, ca, cells, t), some (.int n) => if p = pa ∧ pa ≠ ca then .next { s' with w := some (pa, ca, cells, n) } else .stuck
  | _, _, _ => .stuck
def fSetC (i : Nat) (f g : M R) : DSt → Flow := fun s => onRes (f s) fun r s1 => match s1.d[i]? with
  | some (.raw (.ref c)) => onRes (g s1) fun k s2 => match s2.w, look r s1, look k s2 with
    | some (pa, ca, cells, t), some (.int z), some (.int n) => if c = ca then match ixN cells.length n with
      | some j => .next { s2 with w := some (pa, ca, cells.set j z, t) }
      | none => .stuck
      else .stuck
    | _, _, _ => .stuck
  | _ => .stuck
theorem s_setC {i : Nat} {x k : Expr} {p' : Pos} (he : DE X cl W e f) (hx : PE X x (tVar i)) (hk : DE X cl W k g)
    (ha : ∀ v, assign (.Subscript x k p') X.env v = (do
      let ov ← holding [v] (eval x X.env)
      let iv ← holding [v, ov] (eval k X.env)
      standAt p'
      holding [v, ov, iv] (setItem ov iv v)
      release [v, ov, iv] []) := by intro _; rfl)
    (hs : swapsWithSole [.Subscript x k p'] e pos.line X.env = pure false := by rfl) (hw : swappedStores [.Subscript x k p'] e X.env = pure none := by rfl) (h1 : (assignEach [.Subscript x k p'] X.env).map (·.2) = [assign (.Subscript x k p') X.env] := by rfl) :
    DS X cl W (.Assign [.Subscript x k p'] e pos) (fSetC i f g) := by
  refine ps_imp (ps_asg he (pg_sub hx hk set_list ha) hs hw h1) fun D σ H ⟨G, s, S, h⟩ => ⟨G, s, S, ?_⟩
  refine out_mono (fout_res h) fun r G1 s1 H1 st1 S1 k v rr => ?_
  split at k
  · rename_i c e1
    refine ⟨_, raw_at S1 e1, G1, s1, S1, ?_⟩
    have k3 := fout_shift st1 k
    refine out_mono (fout_res k3) fun kk G3 s3 H3 st3 S3 k4 u ru => ?_
    split at k4
    · rename_i pa ca cells t z n e2 e3 e4
      split at k4
      · rename_i hh
        subst hh
        split at k4
        · rename_i j ej
          obtain ⟨q1, q2, q3, q4, q5⟩ := pw_get S3 e2
          obtain rfl := dq_int (look_q S1 rr e3)
          obtain rfl := dq_int (look_q S3 ru e4)
          obtain ⟨st4, S4⟩ := pw_write (H' := upd H3 c (.lst ((cells.map V.int).set j (.int z)))) (cells' := cells.set j z) (t' := t) S3 e2 (fun a n1 n2 => upd_ne n2) (by
            by_cases z : pa = c
            · rw [z, upd_same, pwA_eq, List.map_set]
            · rw [upd_ne z, pwA_ne z]; rw [pwA_ne z] at q2; exact q2) (by rw [upd_same, List.map_set])
          exact ⟨c, _, n, j, rfl, rfl, q3, by rw [List.length_map]; exact ej, k4 _ σ _ (st3.trans st4) S4⟩
        · exact k4.elim
      · exact k4.elim
    · exact k4.elim
  · exact k.elim
end
end DL

/-! DL14: the purse made; a law -/
noncomputable section
namespace DL
open PySem L2 PyProof.Rows
open Evl (Ex)
def spPurse (K : PySem.W.Frag) : Sp := fun vs H Q _ => ∃ (a : Addr) (ns : List Int), vs = [.ref a] ∧ SqL K H a (ns.map V.int) ∧ ns.length ≤ 63 ∧ TabOk (fun _ => none) H ∧
  ∀ (pa ca : Addr) (cells : List Int) (H' : Hp), pa ≠ ca → H pa = none → H ca = none → TabOk (fun _ => none) H' → H' pa = some (.lst [.ref ca, .int 0]) → H' ca = some (.lst (cells.map V.int)) → cells ≠ [] → cells.length ≤ 63 → Q (.ref pa) H'
def spLaw (K : PySem.W.Frag) : Sp := fun vs H Q _ => ∃ (a : Addr) (ns : List Int), vs = [.ref a] ∧ SqL K H a (ns.map V.int) ∧ ns.length ≤ 63 ∧ TabOk (fun _ => none) H ∧ ∀ H', Q (.bl true) H'
section
variable {P : Program} {w : World} {K : PySem.W.Frag} {mg : Str → Option Value} {base : Heap} {cl : String → Addr}
def CalS (P : Program) (w : World) (K : PySem.W.Frag) (mg : Str → Option Value) (base : Heap) (x : Str) (k : Nat) (ps : List Str) (sp : Sp) : Prop :=
  ∃ (f : Addr) (fd : FuncData), FnG P w K mg base (L2.CX P w) k f fd ps sp ∧ mg x = some (.ref f) ∧ PySem.W.keepIn K (.ref f) = true ∧ Binds K fd ps []
end
end DL

/-! DL15: reckoning on data: what each piece does, as rows for simp -/
noncomputable section
namespace DL
open PySem L2
def andThen (x : Flow) (q : DSt → Flow) : Flow := match x with
  | .next s => q s
  | x => x
theorem inB_of {j : Int} (h1 : -1000000000 ≤ j) (h2 : j ≤ 1000000000) : inB j := ⟨by omega, by omega⟩
theorem inW_of {j : Int} (h1 : -1000000000 ≤ j) (h2 : j ≤ 1000000000) : inW j := ⟨by omega, by omega⟩
@[simp] theorem inB_lit {k : Nat} (h : k ≤ 1000000000) : inB (no_index (OfNat.ofNat k)) := ⟨by
  show -(2 ^ 62) ≤ (k : Int)
  omega, by
  show (k : Int) < 2 ^ 62
  omega⟩
@[simp] theorem inW_lit {k : Nat} (h : k ≤ 1000000000) : inW (no_index (OfNat.ofNat k)) := ⟨by
  show -(2 ^ 63) ≤ (k : Int)
  omega, by
  show (k : Int) < 2 ^ 63
  omega⟩
@[simp] theorem size_le {n : Nat} (h : n ≤ 100000) : leS n := Nat.le_trans h (by decide)
@[simp] theorem size_lt {n : Nat} (h : n ≤ 100000) : ltS n := Nat.lt_of_le_of_lt h (by decide)
@[simp] theorem at_next {s : DSt} {q : DSt → Flow} : andThen (.next s) q = q s := Eq.trans rfl rfl
@[simp] theorem at_ret {r : R} {s : DSt} {q : DSt → Flow} : andThen (.ret r s) q = .ret r s := Eq.trans rfl rfl
@[simp] theorem at_brk {s : DSt} {q : DSt → Flow} : andThen (.brk s) q = .brk s := Eq.trans rfl rfl
@[simp] theorem at_cnt {s : DSt} {q : DSt → Flow} : andThen (.cnt s) q = .cnt s := Eq.trans rfl rfl
@[simp] theorem at_err {z : Exn} {s : DSt} {q : DSt → Flow} : andThen (.err z s) q = .err z s := Eq.trans rfl rfl
@[simp] theorem at_stuck {q : DSt → Flow} : andThen .stuck q = .stuck := Eq.trans rfl rfl
def onF (x : FRes) (s : DSt) : Res R := match x with
  | .ok r w => .ok r ⟨s.d, w⟩
  | .err z w => .err z ⟨s.d, w⟩
  | .stuck => .stuck
@[simp] theorem onF_ok {r : R} {w : Pw} {s : DSt} : onF (.ok r w) s = .ok r ⟨s.d, w⟩ := Eq.trans rfl rfl
@[simp] theorem onF_err {r : Exn} {w : Pw} {s : DSt} : onF (.err r w) s = .err r ⟨s.d, w⟩ := Eq.trans rfl rfl
def finF (x : Flow) : FRes := match x with
  | .next s => .ok (.val .none) s.w
  | .ret r s => (match finR r s with | some r' => .ok r' s.w | none => .stuck)
  | .err z s => .err z s.w
  | _ => .stuck
@[simp] theorem finF_next {s : DSt} : finF (.next s) = .ok (.val .none) s.w := Eq.trans rfl rfl
@[simp] theorem finF_ret {r : R} {s : DSt} : finF (.ret r s) = (match finR r s with | some r' => .ok r' s.w | none => .stuck) := Eq.trans rfl rfl
@[simp] theorem finF_err {r : Exn} {s : DSt} : finF (.err r s) = .err r s.w := Eq.trans rfl rfl
/-! continuations by name: simp does not run ahead into them -/
def kOp (o : R → R → M R) (g : M R) (x : R) (s : DSt) : Res R := (g s).bind (o x)
@[simp] theorem y_kOp (o : R → R → M R) (g : M R) (x : R) (s : DSt) : kOp o g x s = ((g s).bind (o x)) := Eq.trans rfl rfl
def kB  (r : R) (s : DSt) : Res Bool := match look r s with | some (.bool b) => .ok b s | _ => .stuck
@[simp] theorem y_kB  (r : R) (s : DSt) : kB  r s = (match look r s with | some (.bool b) => .ok b s | _ => .stuck) := Eq.trans rfl rfl
def kAnd (u : M Bool) (b : Bool) (s : DSt) : Res Bool := if b = true then u s else .ok false s
@[simp] theorem y_kAnd (u : M Bool) (b : Bool) (s : DSt) : kAnd u b s = (if b = true then u s else .ok false s) := Eq.trans rfl rfl
def kOr (u : M Bool) (b : Bool) (s : DSt) : Res Bool := if b = true then .ok true s else u s
@[simp] theorem y_kOr (u : M Bool) (b : Bool) (s : DSt) : kOr u b s = (if b = true then .ok true s else u s) := Eq.trans rfl rfl
def kNot  (b : Bool) (s : DSt) : Res Bool := .ok (!b) s
@[simp] theorem y_kNot  (b : Bool) (s : DSt) : kNot  b s = (.ok (!b) s) := Eq.trans rfl rfl
def kV  (b : Bool) (s : DSt) : Res R := .ok (.val (.bool b)) s
@[simp] theorem y_kV  (b : Bool) (s : DSt) : kV  b s = (.ok (.val (.bool b)) s) := Eq.trans rfl rfl
def kAndV (g : M R) (b : Bool) (s : DSt) : Res R := if b = true then g s else .ok (.val (.bool false)) s
@[simp] theorem y_kAndV (g : M R) (b : Bool) (s : DSt) : kAndV g b s = (if b = true then g s else .ok (.val (.bool false)) s) := Eq.trans rfl rfl
def kOrV (g : M R) (b : Bool) (s : DSt) : Res R := if b = true then .ok (.val (.bool true)) s else g s
@[simp] theorem y_kOrV (g : M R) (b : Bool) (s : DSt) : kOrV g b s = (if b = true then .ok (.val (.bool true)) s else g s) := Eq.trans rfl rfl
def kIf (f g : M R) (b : Bool) (s : DSt) : Res R := if b = true then f s else g s
@[simp] theorem y_kIf (f g : M R) (b : Bool) (s : DSt) : kIf f g b s = (if b = true then f s else g s) := Eq.trans rfl rfl
def kCons3 (r : R) (rs : List R) (s : DSt) : Res (List R) := .ok (r :: rs) s
@[simp] theorem y_kCons3 (r : R) (rs : List R) (s : DSt) : kCons3 r rs s = (.ok (r :: rs) s) := Eq.trans rfl rfl
def kCons2 (fs : M (List R)) (r : R) (s : DSt) : Res (List R) := (fs s).bind (kCons3 r)
@[simp] theorem y_kCons2 (fs : M (List R)) (r : R) (s : DSt) : kCons2 fs r s = ((fs s).bind (kCons3 r)) := Eq.trans rfl rfl
def kCons (fs : M (List R)) (r : R) (s : DSt) : Res (List R) := (fEsc r s).bind (kCons2 fs)
@[simp] theorem y_kCons (fs : M (List R)) (r : R) (s : DSt) : kCons fs r s = ((fEsc r s).bind (kCons2 fs)) := Eq.trans rfl rfl
def kLst  (rs : List R) (s : DSt) : Res R := match datas rs with | some ds => if leS ds.length then .ok (.new ds) s else .stuck | none => .stuck
@[simp] theorem y_kLst  (rs : List R) (s : DSt) : kLst  rs s = (match datas rs with | some ds => if leS ds.length then .ok (.new ds) s else .stuck | none => .stuck) := Eq.trans rfl rfl
def kTup  (rs : List R) (s : DSt) : Res R := match datas rs with | some ds => if leS ds.length then .ok (.val (.tuple ds)) s else .stuck | none => .stuck
@[simp] theorem y_kTup  (rs : List R) (s : DSt) : kTup  rs s = (match datas rs with | some ds => if leS ds.length then .ok (.val (.tuple ds)) s else .stuck | none => .stuck) := Eq.trans rfl rfl
def kPart  (r : R) (s : DSt) : Res (Option Int) := match look r s with | some (.int i) => .ok (some i) s | _ => .stuck
@[simp] theorem y_kPart  (r : R) (s : DSt) : kPart  r s = (match look r s with | some (.int i) => .ok (some i) s | _ => .stuck) := Eq.trans rfl rfl
def kSl3 (x : R) (lo : Option Int) (hi : Option Int) (s : DSt) : Res R := match look x s with | some d => (match sliceO d lo hi with | some (.slot _) => .stuck | some r => .ok r s | none => .stuck) | none => .stuck
@[simp] theorem y_kSl3 (x : R) (lo : Option Int) (hi : Option Int) (s : DSt) : kSl3 x lo hi s = (match look x s with | some d => (match sliceO d lo hi with | some (.slot _) => .stuck | some r => .ok r s | none => .stuck) | none => .stuck) := Eq.trans rfl rfl
def kSl2 (b : M (Option Int)) (x : R) (lo : Option Int) (s : DSt) : Res R := (b s).bind (kSl3 x lo)
@[simp] theorem y_kSl2 (b : M (Option Int)) (x : R) (lo : Option Int) (s : DSt) : kSl2 b x lo s = ((b s).bind (kSl3 x lo)) := Eq.trans rfl rfl
def kSl1 (a b : M (Option Int)) (x : R) (s : DSt) : Res R := (a s).bind (kSl2 b x)
@[simp] theorem y_kSl1 (a b : M (Option Int)) (x : R) (s : DSt) : kSl1 a b x s = ((a s).bind (kSl2 b x)) := Eq.trans rfl rfl
def kIsN (b : Bool) (r : R) (s : DSt) : Res R := match isNR r s with | some c => .ok (.val (.bool (if b then !c else c))) s | none => .stuck
@[simp] theorem y_kIsN (b : Bool) (r : R) (s : DSt) : kIsN b r s = (match isNR r s with | some c => .ok (.val (.bool (if b then !c else c))) s | none => .stuck) := Eq.trans rfl rfl
def kDrop  (r : R) (s : DSt) : Flow := .next s
@[simp] theorem y_kDrop  (r : R) (s : DSt) : kDrop  r s = (.next s) := Eq.trans rfl rfl
def kIfS (p q : DSt → Flow) (b : Bool) (s : DSt) : Flow := if b = true then p s else q s
@[simp] theorem y_kIfS (p q : DSt → Flow) (b : Bool) (s : DSt) : kIfS p q b s = (if b = true then p s else q s) := Eq.trans rfl rfl
def kSet (i : Nat) (r : R) (s : DSt) : Flow := if i < s.d.length then (match store i r s with | some s2 => .next s2 | none => .stuck) else .stuck
@[simp] theorem y_kSet (i : Nat) (r : R) (s : DSt) : kSet i r s = (if i < s.d.length then (match store i r s with | some s2 => .next s2 | none => .stuck) else .stuck) := Eq.trans rfl rfl
def kUser (F : List R → Pw → FRes) (rs : List R) (s : DSt) : Res R := onF (F rs s.w) s
@[simp] theorem y_kUser (F : List R → Pw → FRes) (rs : List R) (s : DSt) : kUser F rs s = (onF (F rs s.w) s) := Eq.trans rfl rfl
def kCall (o : List PyData → Option R) (rs : List R) (s : DSt) : Res R := match looks rs s with | some ds => (match o ds with | some (.slot _) => .stuck | some r => .ok r s | none => .stuck) | none => .stuck
@[simp] theorem y_kCall (o : List PyData → Option R) (rs : List R) (s : DSt) : kCall o rs s = (match looks rs s with | some ds => (match o ds with | some (.slot _) => .stuck | some r => .ok r s | none => .stuck) | none => .stuck) := Eq.trans rfl rfl
def kIsi (m : String) (r : R) (s : DSt) : Res R := match look r s with | some d => .ok (.val (.bool (isT m d))) s | none => .stuck
@[simp] theorem y_kIsi (m : String) (r : R) (s : DSt) : kIsi m r s = (match look r s with | some d => .ok (.val (.bool (isT m d))) s | none => .stuck) := Eq.trans rfl rfl
def kLenSet  (r : R) (s : DSt) : Res R := match look r s with | some (.list ds) => (match intsD ds with | some ns => if ns.length ≤ 4000 then .ok (.val (.int (nubI ns).length)) s else .stuck | none => .stuck) | _ => .stuck
@[simp] theorem y_kLenSet  (r : R) (s : DSt) : kLenSet  r s = (match look r s with | some (.list ds) => (match intsD ds with | some ns => if ns.length ≤ 4000 then .ok (.val (.int (nubI ns).length)) s else .stuck | none => .stuck) | _ => .stuck) := Eq.trans rfl rfl
def kIdx2 (x : R) (r : R) (s : DSt) : Res R := match look x s, look r s with | some (.list ds), some d => (match idxO ds d with | some j => .ok (.val (.int (j : Nat))) s | none => .stuck) | _, _ => .stuck
@[simp] theorem y_kIdx2 (x : R) (r : R) (s : DSt) : kIdx2 x r s = (match look x s, look r s with | some (.list ds), some d => (match idxO ds d with | some j => .ok (.val (.int (j : Nat))) s | none => .stuck) | _, _ => .stuck) := Eq.trans rfl rfl
def kIdx (f : M R) (x : R) (s : DSt) : Res R := if isLst x s = true then (f s).bind (kIdx2 x) else .stuck
@[simp] theorem y_kIdx (f : M R) (x : R) (s : DSt) : kIdx f x s = (if isLst x s = true then (f s).bind (kIdx2 x) else .stuck) := Eq.trans rfl rfl
def kApp2 (i : Nat) (r : R) (s : DSt) : Res R := match r, s.d[i]? with | .val d, some (.own ds) => if ltS ds.length then .ok (.val .none) (putS i (.own (ds ++ [d])) s) else .stuck | _, _ => .stuck
@[simp] theorem y_kApp2 (i : Nat) (r : R) (s : DSt) : kApp2 i r s = (match r, s.d[i]? with | .val d, some (.own ds) => if ltS ds.length then .ok (.val .none) (putS i (.own (ds ++ [d])) s) else .stuck | _, _ => .stuck) := Eq.trans rfl rfl
def kApp1 (i : Nat) (r : R) (s : DSt) : Res R := (fEsc r s).bind (kApp2 i)
@[simp] theorem y_kApp1 (i : Nat) (r : R) (s : DSt) : kApp1 i r s = ((fEsc r s).bind (kApp2 i)) := Eq.trans rfl rfl
def kPopAt (i : Nat) (r : R) (s : DSt) : Res R := match look r s, s.d[i]? with | some (.int k), some (.own ds) => (match ixN ds.length k with | some j => (match ds[j]? with | some d => if inW k then .ok (.val d) (putS i (.own (ds.eraseIdx j)) s) else .stuck | none => .stuck) | none => .stuck) | _, _ => .stuck
@[simp] theorem y_kPopAt (i : Nat) (r : R) (s : DSt) : kPopAt i r s = (match look r s, s.d[i]? with | some (.int k), some (.own ds) => (match ixN ds.length k with | some j => (match ds[j]? with | some d => if inW k then .ok (.val d) (putS i (.own (ds.eraseIdx j)) s) else .stuck | none => .stuck) | none => .stuck) | _, _ => .stuck) := Eq.trans rfl rfl
def kIns (i : Nat) (rs : List R) (s : DSt) : Res R := match rs, s.d[i]? with | [.val (.int k), .val d], some (.own ds) => if 0 ≤ k ∧ inW k ∧ ltS ds.length then .ok (.val .none) (putS i (.own (ds.take k.toNat ++ [d] ++ ds.drop k.toNat)) s) else .stuck | _, _ => .stuck
@[simp] theorem y_kIns (i : Nat) (rs : List R) (s : DSt) : kIns i rs s = (match rs, s.d[i]? with | [.val (.int k), .val d], some (.own ds) => if 0 ≤ k ∧ inW k ∧ ltS ds.length then .ok (.val .none) (putS i (.own (ds.take k.toNat ++ [d] ++ ds.drop k.toNat)) s) else .stuck | _, _ => .stuck) := Eq.trans rfl rfl
def kRem (i : Nat) (r : R) (s : DSt) : Res R := match look r s, s.d[i]? with | some (.int k), some (.own ds) => (match intsD ds with | some ns => (match ns.findIdx? (· == k) with | some j => .ok (.val .none) (putS i (.own ((ns.eraseIdx j).map .int)) s) | none => .stuck) | none => .stuck) | _, _ => .stuck
@[simp] theorem y_kRem (i : Nat) (r : R) (s : DSt) : kRem i r s = (match look r s, s.d[i]? with | some (.int k), some (.own ds) => (match intsD ds with | some ns => (match ns.findIdx? (· == k) with | some j => .ok (.val .none) (putS i (.own ((ns.eraseIdx j).map .int)) s) | none => .stuck) | none => .stuck) | _, _ => .stuck) := Eq.trans rfl rfl
def kAug (i : Nat) (o : Int → Int → Int) (a : Int) (r : R) (s : DSt) : Flow := match look r s with | some (.int b) => if i < s.d.length then .next (putS i (.val (.int (o a b))) s) else .stuck | _ => .stuck
@[simp] theorem y_kAug (i : Nat) (o : Int → Int → Int) (a : Int) (r : R) (s : DSt) : kAug i o a r s = (match look r s with | some (.int b) => if i < s.d.length then .next (putS i (.val (.int (o a b))) s) else .stuck | _ => .stuck) := Eq.trans rfl rfl
def kSetIx2 (i : Nat) (r : R) (k : R) (s : DSt) : Flow := match r, look k s, s.d[i]? with | .val d, some (.int n), some (.own ds) => (match ixN ds.length n with | some j => .next (putS i (.own (ds.set j d)) s) | none => .stuck) | _, _, _ => .stuck
@[simp] theorem y_kSetIx2 (i : Nat) (r : R) (k : R) (s : DSt) : kSetIx2 i r k s = (match r, look k s, s.d[i]? with | .val d, some (.int n), some (.own ds) => (match ixN ds.length n with | some j => .next (putS i (.own (ds.set j d)) s) | none => .stuck) | _, _, _ => .stuck) := Eq.trans rfl rfl
def kSetIx (i : Nat) (g : M R) (r : R) (s : DSt) : Flow := if isOwn i s = true then onRes (g s) (kSetIx2 i r) else .stuck
@[simp] theorem y_kSetIx (i : Nat) (g : M R) (r : R) (s : DSt) : kSetIx i g r s = (if isOwn i s = true then onRes (g s) (kSetIx2 i r) else .stuck) := Eq.trans rfl rfl
def kPar (i j : Nat) (rs : List R) (s : DSt) : Flow := match rs with | [r1, r2] => if i < s.d.length ∧ j < s.d.length then .next (putS j (toSl r2) (putS i (toSl r1) s)) else .stuck | _ => .stuck
@[simp] theorem y_kPar (i j : Nat) (rs : List R) (s : DSt) : kPar i j rs s = (match rs with | [r1, r2] => if i < s.d.length ∧ j < s.d.length then .next (putS j (toSl r2) (putS i (toSl r1) s)) else .stuck | _ => .stuck) := Eq.trans rfl rfl
def kAsgB (b : Bd) (r : R) (s : DSt) : Flow := match r with | .val d => (match b d s with | some s2 => .next s2 | none => .stuck) | _ => .stuck
@[simp] theorem y_kAsgB (b : Bd) (r : R) (s : DSt) : kAsgB b r s = (match r with | .val d => (match b d s with | some s2 => .next s2 | none => .stuck) | _ => .stuck) := Eq.trans rfl rfl
def kLstI2  (r : R) (s : DSt) : Res (List PyData) := match r with | .val (.list ds) => .ok ds s | .val (.tuple ds) => .ok ds s | _ => .stuck
@[simp] theorem y_kLstI2  (r : R) (s : DSt) : kLstI2  r s = (match r with | .val (.list ds) => .ok ds s | .val (.tuple ds) => .ok ds s | _ => .stuck) := Eq.trans rfl rfl
def kLstI  (r : R) (s : DSt) : Res (List PyData) := (fEsc r s).bind kLstI2
@[simp] theorem y_kLstI  (r : R) (s : DSt) : kLstI  r s = ((fEsc r s).bind kLstI2) := Eq.trans rfl rfl
def kTupI  (r : R) (s : DSt) : Res (List PyData) := match look r s with | some (.tuple ds) => .ok ds s | _ => .stuck
@[simp] theorem y_kTupI  (r : R) (s : DSt) : kTupI  r s = (match look r s with | some (.tuple ds) => .ok ds s | _ => .stuck) := Eq.trans rfl rfl
def kRng1  (rs : List R) (s : DSt) : Res (List PyData) := match rs with | [r] => (match look r s with | some (.int j) => if inB j then .ok (rangeD 0 j.toNat) s else .stuck | _ => .stuck) | _ => .stuck
@[simp] theorem y_kRng1  (rs : List R) (s : DSt) : kRng1  rs s = (match rs with | [r] => (match look r s with | some (.int j) => if inB j then .ok (rangeD 0 j.toNat) s else .stuck | _ => .stuck) | _ => .stuck) := Eq.trans rfl rfl
def kRng2  (rs : List R) (s : DSt) : Res (List PyData) := match rs with | [r, r2] => (match look r s, look r2 s with | some (.int i), some (.int j) => if inB i ∧ inB j then .ok (rangeD i (j - i).toNat) s else .stuck | _, _ => .stuck) | _ => .stuck
@[simp] theorem y_kRng2  (rs : List R) (s : DSt) : kRng2  rs s = (match rs with | [r, r2] => (match look r s, look r2 s with | some (.int i), some (.int j) => if inB i ∧ inB j then .ok (rangeD i (j - i).toNat) s else .stuck | _, _ => .stuck) | _ => .stuck) := Eq.trans rfl rfl
def kEnum  (rs : List R) (s : DSt) : Res (List PyData) := match rs with | [.val (.list ds)] => .ok (enumD ds) s | _ => .stuck
@[simp] theorem y_kEnum  (rs : List R) (s : DSt) : kEnum  rs s = (match rs with | [.val (.list ds)] => .ok (enumD ds) s | _ => .stuck) := Eq.trans rfl rfl
def kZip  (rs : List R) (s : DSt) : Res (List PyData) := match rs with | [.val (.list ds), .val (.list es)] => .ok (zipD ds es) s | _ => .stuck
@[simp] theorem y_kZip  (rs : List R) (s : DSt) : kZip  rs s = (match rs with | [.val (.list ds), .val (.list es)] => .ok (zipD ds es) s | _ => .stuck) := Eq.trans rfl rfl
def kUn (o : R → M R) (x : R) (s : DSt) : Res R := o x s
@[simp] theorem y_kUn (o : R → M R) (x : R) (s : DSt) : kUn o x s = (o x s) := Eq.trans rfl rfl
def kIxC (c : Addr) (r : R) (s : DSt) : Res R := match s.w, look r s with | some (pa, ca, cells, t), some (.int n) => if c = ca then match atI cells n with | some z => .ok (.val (.int z)) s | none => .stuck else .stuck | _, _ => .stuck
@[simp] theorem y_kIxC (c : Addr) (r : R) (s : DSt) : kIxC c r s = (match s.w, look r s with | some (pa, ca, cells, t), some (.int n) => if c = ca then match atI cells n with | some z => .ok (.val (.int z)) s | none => .stuck else .stuck | _, _ => .stuck) := Eq.trans rfl rfl
@[simp] theorem x_ixC {i : Nat} {f : M R} {s : DSt} : fIxC i f s = (match s.d[i]? with | some (.raw (.ref c)) => (f s).bind (kIxC c) | _ => .stuck) := Eq.trans rfl rfl
@[simp] theorem x_unP {i j k : Nat} {s : DSt} : fUnP i j k s = (match s.d[i]?, s.w with | some (.raw (.ref p)), some (pa, ca, cells, t) => if p = pa ∧ pa ≠ ca ∧ j < s.d.length ∧ k < s.d.length then .next (putS k (.val (.int t)) (putS j (.raw (.ref ca)) s)) else .stuck | _, _ => .stuck) := Eq.trans rfl rfl
@[simp] theorem x_lenC {i : Nat} {s : DSt} : fLenC i s = (match s.d[i]?, s.w with | some (.raw (.ref c)), some (pa, ca, cells, t) => if c = ca then .ok (.val (.int cells.length)) s else .stuck | _, _ => .stuck) := Eq.trans rfl rfl
def kSetT (i : Nat) (r : R) (s : DSt) : Flow := match s.d[i]?, s.w, look r s with | some (.raw (.ref p)), some (pa, ca, cells, t), some (.int n) => if p = pa ∧ pa ≠ ca then .next ⟨s.d, some (pa, ca, cells, n)⟩ else .stuck | _, _, _ => .stuck
@[simp] theorem y_kSetT (i : Nat) (r : R) (s : DSt) : kSetT i r s = (match s.d[i]?, s.w, look r s with | some (.raw (.ref p)), some (pa, ca, cells, t), some (.int n) => if p = pa ∧ pa ≠ ca then .next ⟨s.d, some (pa, ca, cells, n)⟩ else .stuck | _, _, _ => .stuck) := Eq.trans rfl rfl
@[simp] theorem x_setT {i : Nat} {f : M R} {s : DSt} : fSetT i f s = onRes (f s) (kSetT i) := Eq.trans rfl rfl
def kSetC2 (c : Addr) (z : Option PyData) (k : R) (s : DSt) : Flow := match s.w, z, look k s with | some (pa, ca, cells, t), some (.int z), some (.int n) => if c = ca then match ixN cells.length n with | some j => .next ⟨s.d, some (pa, ca, cells.set j z, t)⟩ | none => .stuck else .stuck | _, _, _ => .stuck
@[simp] theorem y_kSetC2 (c : Addr) (z : Option PyData) (k : R) (s : DSt) : kSetC2 c z k s = (match s.w, z, look k s with | some (pa, ca, cells, t), some (.int z), some (.int n) => if c = ca then match ixN cells.length n with | some j => .next ⟨s.d, some (pa, ca, cells.set j z, t)⟩ | none => .stuck else .stuck | _, _, _ => .stuck) := Eq.trans rfl rfl
def kSetC (i : Nat) (g : M R) (r : R) (s : DSt) : Flow := match s.d[i]? with | some (.raw (.ref c)) => onRes (g s) (kSetC2 c (look r s)) | _ => .stuck
@[simp] theorem y_kSetC (i : Nat) (g : M R) (r : R) (s : DSt) : kSetC i g r s = (match s.d[i]? with | some (.raw (.ref c)) => onRes (g s) (kSetC2 c (look r s)) | _ => .stuck) := Eq.trans rfl rfl
@[simp] theorem x_setC {i : Nat} {f g : M R} {s : DSt} : fSetC i f g s = onRes (f s) (kSetC i g) := Eq.trans rfl rfl
section
variable {α β : Type} {i j k n : Nat} {s s1 s2 : DSt} {f g : M R} {fs : M (List R)} {t u : M Bool} {p q : DSt → Flow} {r x y : R} {d e : PyData} {ds es : List PyData} {v : V} {l : List Sl} {w : Pw} {c : Sl}
@[simp] theorem x_var : fVar i s = (match s.d[i]? with | some (.val d) => .ok (.val d) s | some (.raw v) => .ok (.raw v) s | some (.ob o) => .ok (.ob o) s | some (.own _) => .ok (.slot i) s | _ => .stuck) := Eq.trans rfl rfl
@[simp] theorem x_c : fC d s = .ok (.val d) s := Eq.trans rfl rfl
@[simp] theorem x_raw : fRaw v s = .ok (.raw v) s := Eq.trans rfl rfl
@[simp] theorem x_op {o : R → R → M R} : fOp o f g s = (f s).bind (kOp o g) := Eq.trans rfl rfl
@[simp] theorem x_look_val : look (.val d) s = some d := Eq.trans rfl rfl
@[simp] theorem x_look_new : look (.new ds) s = some (.list ds) := Eq.trans rfl rfl
@[simp] theorem x_look_raw : look (.raw v) s = none := Eq.trans rfl rfl
@[simp] theorem x_look_ob {o : OD} : look (.ob o) s = none := Eq.trans rfl rfl
@[simp] theorem x_look_slot : look (.slot i) s = (match s.d[i]? with | some (.own ds) => some (.list ds) | some (.val d) => some d | _ => none) := Eq.trans rfl rfl
@[simp] theorem x_lift1 {o : PyData → Option R} : lift1 o x s = (match look x s with | some d => (match o d with | some (.slot _) => .stuck | some r => .ok r s | none => .stuck) | none => .stuck) := Eq.trans rfl rfl
@[simp] theorem x_lift2 {o : PyData → PyData → Option R} : lift2 o x y s = (match look x s, look y s with | some d, some e => (match o d e with | some (.slot _) => .stuck | some r => .ok r s | none => .stuck) | _, _ => .stuck) := Eq.trans rfl rfl
@[simp] theorem x_B : fB f s = (f s).bind kB := Eq.trans rfl rfl
@[simp] theorem x_and : fAnd t u s = (t s).bind (kAnd u) := by
  show Res.bind _ _ = _
  congr 1
  funext b s
  cases b <;> rfl
@[simp] theorem x_or : fOr t u s = (t s).bind (kOr u) := by
  show Res.bind _ _ = _
  congr 1
  funext b s
  cases b <;> rfl
@[simp] theorem x_not : fNot t s = (t s).bind kNot := Eq.trans rfl rfl
@[simp] theorem x_V : fV t s = (t s).bind kV := Eq.trans rfl rfl
@[simp] theorem x_andV : fAndV f g s = (fB f s).bind (kAndV g) := by
  show Res.bind _ _ = _
  congr 1
  funext b s
  cases b <;> rfl
@[simp] theorem x_orV : fOrV f g s = (fB f s).bind (kOrV g) := by
  show Res.bind _ _ = _
  congr 1
  funext b s
  cases b <;> rfl
@[simp] theorem x_if : fIf t f g s = (t s).bind (kIf f g) := by
  show Res.bind _ _ = _
  congr 1
  funext b s
  cases b <;> rfl
@[simp] theorem x_esc_val : esc (.val d) s = some (.val d, s) := Eq.trans rfl rfl
@[simp] theorem x_esc_raw : esc (.raw v) s = some (.raw v, s) := Eq.trans rfl rfl
@[simp] theorem x_esc_ob {o : OD} : esc (.ob o) s = some (.ob o, s) := Eq.trans rfl rfl
@[simp] theorem x_esc_new : esc (.new ds) s = some (.val (.list ds), s) := Eq.trans rfl rfl
@[simp] theorem x_esc_slot : esc (.slot i) s = (match s.d[i]? with | some (.own ds) => some (.val (.list ds), ⟨s.d.set i (.val (.list ds)), s.w⟩) | some (.val d) => some (.val d, s) | _ => none) := Eq.trans rfl rfl
@[simp] theorem x_Esc : fEsc r s = (match esc r s with | some (r', s') => .ok r' s' | none => .stuck) := Eq.trans rfl rfl
@[simp] theorem x_nil : fNil s = .ok [] s := Eq.trans rfl rfl
@[simp] theorem x_cons : fCons f fs s = (f s).bind (kCons fs) := Eq.trans rfl rfl
@[simp] theorem x_pcons : pCons f fs s = (f s).bind (kCons2 fs) := Eq.trans rfl rfl
@[simp] theorem x_datas_nil : datas [] = some [] := Eq.trans rfl rfl
@[simp] theorem x_datas_cons {rs : List R} : datas (.val d :: rs) = (datas rs).map (d :: ·) := Eq.trans rfl rfl
@[simp] theorem x_lst : fLst fs s = (fs s).bind kLst := Eq.trans rfl rfl
@[simp] theorem x_tup : fTup fs s = (fs s).bind kTup := Eq.trans rfl rfl
@[simp] theorem x_part : fPart f s = (f s).bind kPart := Eq.trans rfl rfl
@[simp] theorem x_nopart : fNoPart s = .ok none s := Eq.trans rfl rfl
@[simp] theorem x_slice {a b : M (Option Int)} : fSlice f a b s = (f s).bind (kSl1 a b) := Eq.trans rfl rfl
@[simp] theorem x_un {o : R → M R} : fUn o f s = (f s).bind (kUn o) := Eq.trans rfl rfl
@[simp] theorem x_isN {b : Bool} : fIsN b f s = (f s).bind (kIsN b) := Eq.trans rfl rfl
@[simp] theorem x_isN_val : isNR (.val d) s = some (match d with | .none => true | _ => false) := by cases d <;> rfl
@[simp] theorem x_isN_ob {o : OD} : isNR (.ob o) s = some false := Eq.trans rfl rfl
@[simp] theorem x_isN_new : isNR (.new ds) s = some false := Eq.trans rfl rfl
@[simp] theorem x_isN_slot : isNR (.slot i) s = (match s.d[i]? with | some (.own _) => some false | some (.val d) => some (match d with | .none => true | _ => false) | _ => none) := by
  show (match look (.slot i) s with | some .none => some true | some _ => some false | none => none) = _
  rw [x_look_slot]
  cases s.d[i]? with
  | none => rfl
  | some c =>
    cases c with
    | val d => cases d <;> rfl
    | _ => rfl
@[simp] theorem x_onRes_ok {a : α} {h : α → DSt → Flow} : onRes (.ok a s) h = h a s := Eq.trans rfl rfl
@[simp] theorem x_onRes_err {z : Exn} {h : α → DSt → Flow} : onRes (.err z s) h = .err z s := Eq.trans rfl rfl
@[simp] theorem x_onRes_stuck {h : α → DSt → Flow} : onRes .stuck h = .stuck := Eq.trans rfl rfl
@[simp] theorem x_seq : fseq p q s = andThen (p s) q := Eq.trans rfl rfl
@[simp] theorem x_next : fnext s = .next s := Eq.trans rfl rfl
@[simp] theorem x_brk : fbrk s = .brk s := Eq.trans rfl rfl
@[simp] theorem x_cnt : fcnt s = .cnt s := Eq.trans rfl rfl
@[simp] theorem x_never : fnever s = .stuck := Eq.trans rfl rfl
@[simp] theorem x_drop : fDrop f s = onRes (f s) kDrop := Eq.trans rfl rfl
@[simp] theorem x_ret : fRet f s = onRes (f s) Flow.ret := Eq.trans rfl rfl
@[simp] theorem x_retN : fRetN s = .ret (.val .none) s := Eq.trans rfl rfl
@[simp] theorem x_ifS : fIfS t p q s = onRes (t s) (kIfS p q) := by
  show onRes _ _ = _
  congr 1
@[simp] theorem x_store_val : store i (.val d) s = some (putS i (.val d) s) := Eq.trans rfl rfl
@[simp] theorem x_store_raw : store i (.raw v) s = some (putS i (.raw v) s) := Eq.trans rfl rfl
@[simp] theorem x_store_ob {o : OD} : store i (.ob o) s = some (putS i (.ob o) s) := Eq.trans rfl rfl
@[simp] theorem x_store_new : store i (.new ds) s = some (putS i (.own ds) s) := Eq.trans rfl rfl
@[simp] theorem x_store_slot : store i (.slot j) s = (match s.d[j]? with | some (.own ds) => some (putS i (.val (.list ds)) (putS j (.val (.list ds)) s)) | some (.val d) => some (putS i (.val d) s) | _ => none) := Eq.trans rfl rfl
@[simp] theorem x_putS : putS i c ⟨l, w⟩ = ⟨l.set i c, w⟩ := Eq.trans rfl rfl
@[simp] theorem x_set : fSet i f s = onRes (f s) (kSet i) := Eq.trans rfl rfl
@[simp] theorem x_user {F : List R → Pw → FRes} : fUser F fs s = (fs s).bind (kUser F) := Eq.trans rfl rfl
@[simp] theorem x_call {o : List PyData → Option R} : fCall o fs s = (fs s).bind (kCall o) := Eq.trans rfl rfl
@[simp] theorem x_looks_nil : looks [] s = some [] := Eq.trans rfl rfl
@[simp] theorem x_looks_cons {rs : List R} : looks (r :: rs) s = (match look r s, looks rs s with | some d, some ds => some (d :: ds) | _, _ => none) := Eq.trans rfl rfl
@[simp] theorem x_isi {m : String} : fIsi m f s = (f s).bind (kIsi m) := Eq.trans rfl rfl
@[simp] theorem x_lenSet : fLenSet f s = (f s).bind kLenSet := Eq.trans rfl rfl
@[simp] theorem x_isLst_val : isLst (.val (.list ds)) s = true := Eq.trans rfl rfl
@[simp] theorem x_isLst_new : isLst (.new ds) s = true := Eq.trans rfl rfl
@[simp] theorem x_isLst_slot : isLst (.slot i) s = (match s.d[i]? with | some (.own _) => true | some (.val (.list _)) => true | _ => false) := by
  show (match look (.slot i) s with | some (.list _) => true | _ => false) = _
  rw [x_look_slot]
  cases s.d[i]? with
  | none => rfl
  | some c =>
    cases c with
    | val d => cases d <;> rfl
    | _ => rfl
@[simp] theorem x_index : fIndex g f s = (g s).bind (kIdx f) := by
  show Res.bind _ _ = _
  congr 1
@[simp] theorem x_isOwn : isOwn i s = (match s.d[i]? with | some (.own _) => true | _ => false) := Eq.trans rfl rfl
@[simp] theorem x_app : fApp i f s = if isOwn i s = true then (f s).bind (kApp1 i) else .stuck := Eq.trans rfl rfl
@[simp] theorem x_pop : fPop i s = (match s.d[i]? with | some (.own ds) => (match ds[ds.length - 1]? with | some d => .ok (.val d) (putS i (.own ds.dropLast) s) | none => .stuck) | _ => .stuck) := Eq.trans rfl rfl
@[simp] theorem x_popAt : fPopAt i f s = if isOwn i s = true then (f s).bind (kPopAt i) else .stuck := Eq.trans rfl rfl
@[simp] theorem x_ins : fIns i fs s = if isOwn i s = true then (fs s).bind (kIns i) else .stuck := Eq.trans rfl rfl
@[simp] theorem x_rem : fRem i f s = if isOwn i s = true then (f s).bind (kRem i) else .stuck := Eq.trans rfl rfl
@[simp] theorem x_clear : fClear i s = (match s.d[i]? with | some (.own _) => .ok (.val .none) (putS i (.own []) s) | _ => .stuck) := Eq.trans rfl rfl
@[simp] theorem x_aug {o : Int → Int → Int} : fAug i o f s = (match s.d[i]? with | some (.val (.int a)) => onRes (f s) (kAug i o a) | _ => .stuck) := Eq.trans rfl rfl
@[simp] theorem x_setIx : fSetIx i f g s = onRes ((f s).bind fEsc) (kSetIx i g) := Eq.trans rfl rfl
@[simp] theorem x_toSl_val : toSl (.val d) = .val d := Eq.trans rfl rfl
@[simp] theorem x_toSl_ob {o : OD} : toSl (.ob o) = .ob o := Eq.trans rfl rfl
@[simp] theorem x_toSl_raw : toSl (.raw v) = .raw v := Eq.trans rfl rfl
@[simp] theorem x_par : fPar i j fs s = onRes (fs s) (kPar i j) := Eq.trans rfl rfl
@[simp] theorem x_bName : bName i d s = if i < s.d.length then some (putS i (.val d) s) else none := Eq.trans rfl rfl
@[simp] theorem x_bTup {bs : Bds} : bTup n bs (.tuple ds) s = if ds.length = n then bs ds s else none := Eq.trans rfl rfl
@[simp] theorem x_bSeq_t {bs : Bds} : bSeq n bs (.tuple ds) s = if ds.length = n then bs ds s else none := Eq.trans rfl rfl
@[simp] theorem x_bSeq_l {bs : Bds} : bSeq n bs (.list ds) s = if ds.length = n then bs ds s else none := Eq.trans rfl rfl
@[simp] theorem x_bNil : bNil [] s = some s := Eq.trans rfl rfl
@[simp] theorem x_bCons {b : Bd} {bs : Bds} : bCons b bs (d :: ds) s = (match b d s with | some s' => bs ds s' | none => none) := Eq.trans rfl rfl
@[simp] theorem x_asgB {b : Bd} : fAsgB f b s = onRes ((f s).bind fEsc) (kAsgB b) := Eq.trans rfl rfl
@[simp] theorem x_lstI : fLstI f s = (f s).bind kLstI := Eq.trans rfl rfl
@[simp] theorem x_tupI : fTupI f s = (f s).bind kTupI := Eq.trans rfl rfl
@[simp] theorem x_rng1 : fRng1 fs s = (fs s).bind kRng1 := Eq.trans rfl rfl
@[simp] theorem x_rng2 : fRng2 fs s = (fs s).bind kRng2 := Eq.trans rfl rfl
@[simp] theorem x_enum : fEnum fs s = (fs s).bind kEnum := Eq.trans rfl rfl
@[simp] theorem x_zip : fZip fs s = (fs s).bind kZip := Eq.trans rfl rfl
@[simp] theorem x_for {fi : M (List PyData)} {b : Bd} : fFor fi b p s = onRes (fi s) (loopF b p) := Eq.trans rfl rfl
@[simp] theorem x_yes : fYes s = .ok true s := Eq.trans rfl rfl
@[simp] theorem x_addII {a b : Int} : addO (.int a) (.int b) = some (.val (.int (a + b))) := Eq.trans rfl rfl
@[simp] theorem x_addLL : addO (.list ds) (.list es) = if leS (ds.length + es.length) then some (.new (ds ++ es)) else none := Eq.trans rfl rfl
@[simp] theorem x_addTT : addO (.tuple ds) (.tuple es) = if leS (ds.length + es.length) then some (.val (.tuple (ds ++ es))) else none := Eq.trans rfl rfl
@[simp] theorem x_sub {a b : Int} : subO (.int a) (.int b) = some (.val (.int (a - b))) := Eq.trans rfl rfl
theorem x_mul {a b : Int} : mulO (.int a) (.int b) = if lgM a b then some (.val (.int (a * b))) else none := Eq.trans rfl rfl
@[simp] theorem x_mulL {k : Int} : mulO (.list ds) (.int k) = if inW k ∧ leS (ds.length * k.toNat) then some (.new (List.replicate k.toNat ds).flatten) else none := Eq.trans rfl rfl
theorem x_fdiv {a b : Int} : fdivO (.int a) (.int b) = if 0 < b ∧ lgD b then some (.val (.int (a / b))) else none := Eq.trans rfl rfl
theorem x_mod {a b : Int} : modO (.int a) (.int b) = if 0 < b then some (.val (.int (a % b))) else none := Eq.trans rfl rfl
theorem x_pow {a b : Int} : powO (.int a) (.int b) = if 0 ≤ b ∧ leP b ∧ lgP a then some (.val (.int (a ^ b.toNat))) else none := Eq.trans rfl rfl
@[simp] theorem x_lt {a b : Int} : ltO (.int a) (.int b) = some (.val (.bool (decide (a < b)))) := Eq.trans rfl rfl
@[simp] theorem x_le {a b : Int} : leO (.int a) (.int b) = some (.val (.bool (decide (a ≤ b)))) := Eq.trans rfl rfl
@[simp] theorem x_gt {a b : Int} : gtO (.int a) (.int b) = some (.val (.bool (decide (b < a)))) := Eq.trans rfl rfl
@[simp] theorem x_ge {a b : Int} : geO (.int a) (.int b) = some (.val (.bool (decide (b ≤ a)))) := Eq.trans rfl rfl
@[simp] theorem x_neg {a : Int} : negO (.int a) = some (.val (.int (-a))) := Eq.trans rfl rfl
@[simp] theorem x_rev : revO (.list ds) = some (.new ds.reverse) := Eq.trans rfl rfl
@[simp] theorem x_ixL {a : Int} : ixO (.list ds) (.int a) = (atI ds a).map .val := Eq.trans rfl rfl
@[simp] theorem x_ixT {a : Int} : ixO (.tuple ds) (.int a) = (atI ds a).map .val := Eq.trans rfl rfl
@[simp] theorem x_lenL : lenO [.list ds] = some (.val (.int ds.length)) := Eq.trans rfl rfl
@[simp] theorem x_lenT : lenO [.tuple ds] = some (.val (.int ds.length)) := Eq.trans rfl rfl
@[simp] theorem x_listL : listO [.list ds] = some (.new ds) := Eq.trans rfl rfl
@[simp] theorem x_listT : listO [.tuple ds] = some (.new ds) := Eq.trans rfl rfl
@[simp] theorem x_tupL : tupleO [.list ds] = some (.val (.tuple ds)) := Eq.trans rfl rfl
@[simp] theorem x_sliceL {lo hi : Option Int} : sliceO (.list ds) lo hi = some (.new (cutD ds lo hi)) := Eq.trans rfl rfl
@[simp] theorem x_sliceT {lo hi : Option Int} : sliceO (.tuple ds) lo hi = some (.val (.tuple (cutD ds lo hi))) := Eq.trans rfl rfl
@[simp] theorem x_allO : allO [.list ds] = (boolsD ds).map fun bs => .val (.bool (bs.all id)) := Eq.trans rfl rfl
@[simp] theorem x_anyO : anyO [.list ds] = (boolsD ds).map fun bs => .val (.bool (bs.any id)) := Eq.trans rfl rfl
@[simp] theorem x_sumO : sumO [.list ds] = (intsD ds).map fun bs => .val (.int bs.sum) := Eq.trans rfl rfl
@[simp] theorem x_sortedO : sortedO [.list ds] = (match intsD ds with | some ns => some (.new ((sortI ns).map .int)) | none => if canSort ds then some (.new (sortDD ds)) else none) := Eq.trans rfl rfl
@[simp] theorem x_absO {a : Int} : absO [.int a] = some (.val (.int (if a < 0 then -a else a))) := Eq.trans rfl rfl
@[simp] theorem x_intI {a : Int} : intO [.int a] = some (.val (.int a)) := Eq.trans rfl rfl
@[simp] theorem x_intB {b : Bool} : intO [.bool b] = some (.val (.int (if b then 1 else 0))) := Eq.trans rfl rfl
@[simp] theorem x_max2 {a b : Int} : maxO [.int a, .int b] = some (.val (.int (if b > a then b else a))) := Eq.trans rfl rfl
@[simp] theorem x_min2 {a b : Int} : minO [.int a, .int b] = some (.val (.int (if b < a then b else a))) := Eq.trans rfl rfl
@[simp] theorem x_isT_int {a : Int} {m : String} : isT m (.int a) = (m == "int") := by simp [isT, isN, tyN]
@[simp] theorem x_isT_bool {a : Bool} {m : String} : isT m (.bool a) = (m == "bool" || m == "int") := by simp [isT, isN, tyN]
@[simp] theorem x_isT_list {m : String} : isT m (.list ds) = (m == "list") := by simp [isT, isN, tyN]
@[simp] theorem x_isT_tuple {m : String} : isT m (.tuple ds) = (m == "tuple") := by simp [isT, isN, tyN]
@[simp] theorem x_isT_str {a : Str} {m : String} : isT m (.str a) = (m == "str") := by simp [isT, isN, tyN]
@[simp] theorem x_isT_none {m : String} : isT m .none = (m == "NoneType") := by simp [isT, isN, tyN]
@[simp] theorem x_finR_val : finR (.val d) s = some (.val d) := Eq.trans rfl rfl
@[simp] theorem x_finR_new : finR (.new ds) s = some (.new ds) := Eq.trans rfl rfl
@[simp] theorem x_finR_raw : finR (.raw v) s = some (.raw v) := Eq.trans rfl rfl
@[simp] theorem x_finR_ob {o : OD} : finR (.ob o) s = some (.ob o) := Eq.trans rfl rfl
@[simp] theorem x_finR_slot : finR (.slot i) s = (match s.d[i]? with | some (.own ds) => some (.new ds) | some (.val d) => some (.val d) | _ => none) := Eq.trans rfl rfl
theorem x_runF {m : Nat} {rs : List R} : runF n m p rs w = if rs.length = m then finF (p ⟨rs.map toSl ++ List.replicate (n - m) .no, w⟩) else .stuck := Eq.trans rfl rfl
end
/-! ### loops -/
/-! ### comprehensions -/
end DL

/-! DL16: what is asked of a law's own body, and the end -/
noncomputable section
namespace DL
open PySem L2 PyProof.Rows
def PurseOk (n : Nat) (p : DSt → Flow) : Prop := ∀ (a : Addr) (ns : List Int), ns.length ≤ 63 → ∃ (cells : List Int) (s' : DSt), p ⟨.raw (.ref a) :: .own (ns.map .int) :: List.replicate (n - 2) .no, none⟩ = .ret (.new [.list (cells.map .int), .int 0]) s' ∧ cells ≠ [] ∧ cells.length ≤ 63
def LawOk (n : Nat) (p : DSt → Flow) : Prop := ∀ (a pa ca : Addr) (cells : List Int), pa ≠ ca → cells ≠ [] → cells.length ≤ 63 → ∃ s', p ⟨(Sl.raw (.ref a) :: List.replicate (n - 1) Sl.no).set 1 (.raw (.ref pa)), some (pa, ca, cells, 0)⟩ = .ret (.val (.bool true)) s'
theorem wr_mk {K : PySem.W.Frag} {h : Heap} {mg : Str → Option Value} {x : Str} {st : Stmt} {f : Addr} {oc : Value} {od an : Option Addr} {osl : Array (Option Value)} {kV doc pm cdv ct : Value} {ps : List Str} (X : K.In h) (G : h.Ns mainGlobals mg)
    (a : PySem.W.nsIn K mainGlobals x = some (some (.ref f))) (l : K.lookup f = some ⟨oc, od, .func (PySem.W.fnOf x x (defArgs st) (defBody st) (defScope st) .none kV doc pm an cdv ct), osl⟩)
    (c : PySem.W.codeIn K cdv x = true) (k : PySem.W.keepIn K (.ref f) = true) (h : ∀ (kV doc pm : Value) (an : Option Addr) (cdv ct : Value) (us : List Value), us.length = ps.length → bindArgs (PySem.W.fnOf x x (defArgs st) (defBody st) (defScope st) .none kV doc pm an cdv ct) ⟨us, []⟩ = pure (ps.zip us)) : Wr K mg x st ps :=
  ⟨f, _, fun_mk l c k, PySem.W.mg_of X G a, (fun_mk l c k).binds h⟩
theorem walk {l : PySem.W.OpenLaw} {q : Program} {loose : List Str} {XP : (Str → Option Value) → Heap → Prop} {YP : World → Heap → Prop} {d : DefRec} {K : Params → PySem.W.Frag} {k : Nat} {x : Str} (hn : l.most = some 63) (hdf : d.params.defaults = []) (hr : Room k callerA)
    (h0 : tabA = []) (hY : ∀ (w : World) (h : Heap), YP w h → (K w.params).In h)
    (F : ∀ (w : World) (mg : Str → Option Value) (fa : Addr) (h : Heap), (K w.params).In h → h.Ns mainGlobals mg → mg d.name = some (.ref fa) →
      ∃ fd : FuncData, (∀ (s : Shared) (u : Value), BindsTo s fd ⟨[u], []⟩ [(x, u)]) ∧ ∀ base : Heap, (K w.params).In base → base.Ns mainGlobals mg → FnG l.prog w (K w.params) mg base (L2.CX l.prog w) k fa fd [x] (spLaw (K w.params))) :
    PySem.W.WalkO q loose XP YP l.row.toRowW d [] (fun f vs => PySem.call f vs) := by
  refine Att.attach_call hn hdf fun w _ s1 mg mb fa _ _ _ _ a us ns G Y _ _ _ hmg scr hi hl g0 => ?_
  have KX := hY w _ Y
  obtain ⟨fd, bi, FF⟩ := F w mg fa _ KX G.T.g hmg
  exact law_goes KX G.T.g G.T.b G.T.builtins G.T.nolimit g0 scr hi (Nat.le_trans hl (by decide)) hr FF bi fun H _ hS => ⟨a, ns, rfl, hS, hl, (fun p hp => by rw [h0] at hp; cases hp), fun _ => rfl⟩
end DL

/-! DL17: data in plain words: equality, places, cuts -/
noncomputable section
namespace DL
open PySem L2
/-! ### no truth value and no dict within: == is equality -/
mutual
def calmD : PyData → Bool
  | .none | .int _ | .str _ => true
  | .list xs | .tuple xs => calmA xs
  | _ => false
def calmA : List PyData → Bool
  | [] => true
  | x :: xs => calmD x && calmA xs
end
mutual
theorem eqv_calm : ∀ d e : PyData, calmD d = true → calmD e = true → (PyData.eqv d e = true ↔ d = e)
  | .none, e, _, h => by cases e <;> simp [PyData.eqv, calmD] at *
  | .int i, e, _, h => by cases e <;> simp [PyData.eqv, calmD] at *
  | .str i, e, _, h => by cases e <;> simp [PyData.eqv, calmD] at *
  | .list xs, e, h1, h => by
    cases e <;> simp [PyData.eqv, calmD] at *
    rename_i ys
    exact eqvAll_calm xs ys h1 h
  | .tuple xs, e, h1, h => by
    cases e <;> simp [PyData.eqv, calmD] at *
    rename_i ys
    exact eqvAll_calm xs ys h1 h
  | .bool _, _, h, _ => by simp [calmD] at h
  | .dict _, _, h, _ => by simp [calmD] at h
theorem eqvAll_calm : ∀ xs ys : List PyData, calmA xs = true → calmA ys = true → (PyData.eqvAll xs ys = true ↔ xs = ys)
  | [], ys, _, _ => by cases ys <;> simp [PyData.eqvAll]
  | x :: xs, ys, h1, h => by
    cases ys with
    | nil => simp [PyData.eqvAll]
    | cons y ys =>
      simp [calmA] at h1 h
      simp [PyData.eqvAll, eqv_calm x y h1.1 h.1, eqvAll_calm xs ys h1.2 h.2]
end
theorem eqv_dec {d e : PyData} {p : Prop} [Decidable p] (h1 : calmD d = true) (h2 : calmD e = true) (h : d = e ↔ p) : PyData.eqv d e = decide p := by
  rw [Bool.eq_iff_iff, eqv_calm d e h1 h2, h]
  simp
@[simp] theorem calm_int {i : Int} : calmD (.int i) = true := rfl
@[simp] theorem calm_str {i : Str} : calmD (.str i) = true := rfl
@[simp] theorem calm_none : calmD .none = true := rfl
@[simp] theorem calm_list {xs : List PyData} : calmD (.list xs) = calmA xs := rfl
@[simp] theorem calm_tuple {xs : List PyData} : calmD (.tuple xs) = calmA xs := rfl
@[simp] theorem calm_nil : calmA [] = true := rfl
@[simp] theorem calm_cons {x : PyData} {xs : List PyData} : calmA (x :: xs) = (calmD x && calmA xs) := rfl
@[simp] theorem calm_map {α : Type} {f : α → PyData} {l : List α} : calmA (l.map f) = l.all fun a => calmD (f a) := by
  induction l with
  | nil => rfl
  | cons a l ih => simp [ih]
@[simp] theorem calm_app {xs ys : List PyData} : calmA (xs ++ ys) = (calmA xs && calmA ys) := by
  induction xs with
  | nil => simp
  | cons a l ih => simp [ih, Bool.and_assoc]
theorem depthAll_le {xs : List PyData} {n : Nat} : PyData.depthAll xs ≤ n ↔ ∀ x ∈ xs, x.depth ≤ n := by
  induction xs with
  | nil => simp [PyData.depthAll]
  | cons x xs ih => simp [PyData.depthAll, ih, Nat.max_le]
@[simp] theorem dep_int {i : Int} : (PyData.int i).depth = 0 := rfl
@[simp] theorem dep_str {i : Str} : (PyData.str i).depth = 0 := rfl
@[simp] theorem dep_bool {i : Bool} : (PyData.bool i).depth = 0 := rfl
@[simp] theorem dep_none : (PyData.none).depth = 0 := rfl
@[simp] theorem dep_list {xs : List PyData} : (PyData.list xs).depth = PyData.depthAll xs + 1 := rfl
@[simp] theorem dep_tuple {xs : List PyData} : (PyData.tuple xs).depth = PyData.depthAll xs + 1 := rfl
@[simp] theorem dep_nil : PyData.depthAll [] = 0 := rfl
@[simp] theorem dep_cons {x : PyData} {xs : List PyData} : PyData.depthAll (x :: xs) = max x.depth (PyData.depthAll xs) := rfl
@[simp] theorem dep_ints {ns : List Int} : PyData.depthAll (ns.map .int) = 0 := by
  induction ns with
  | nil => rfl
  | cons a l ih => simp [ih]
theorem eqO_calm {d e : PyData} {p : Prop} [Decidable p] (h1 : calmD d = true) (h2 : calmD e = true) (hp : d = e ↔ p) (h : d.depth ≤ 60) : eqO d e = some (.val (.bool (decide p))) := by
  unfold eqO
  rw [if_pos (by omega), eqv_dec h1 h2 hp]
theorem neO_calm {d e : PyData} {p : Prop} [Decidable p] (h1 : calmD d = true) (h2 : calmD e = true) (hp : d = e ↔ p) (h : d.depth ≤ 60) : neO d e = some (.val (.bool (decide (¬ p)))) := by
  unfold neO
  rw [if_pos (by omega), eqv_dec h1 h2 hp]
  simp
theorem int_inj : Function.Injective PyData.int := fun a b h => by cases h; rfl
@[simp] theorem map_int_inj {ns ms : List Int} : ns.map PyData.int = ms.map PyData.int ↔ ns = ms := by
  constructor
  · exact fun h => (List.map_inj_right (fun a b h => int_inj h)).mp h
  · exact fun h => by rw [h]
@[simp] theorem x_eqI {a b : Int} : eqO (.int a) (.int b) = some (.val (.bool (decide (a = b)))) := eqO_calm rfl rfl (by simp) (by simp)
@[simp] theorem x_neI {a b : Int} : neO (.int a) (.int b) = some (.val (.bool (decide (¬ a = b)))) := neO_calm rfl rfl (by simp) (by simp)
@[simp] theorem x_eqB {a b : Bool} : eqO (.bool a) (.bool b) = some (.val (.bool (a == b))) := by simp [eqO, PyData.eqv]
@[simp] theorem x_neB {a b : Bool} : neO (.bool a) (.bool b) = some (.val (.bool (a != b))) := by simp [neO, PyData.eqv, bne]
@[simp] theorem x_eqS {a b : Str} : eqO (.str a) (.str b) = some (.val (.bool (decide (a = b)))) := eqO_calm rfl rfl (by simp) (by simp)
@[simp] theorem x_neS {a b : Str} : neO (.str a) (.str b) = some (.val (.bool (decide (¬ a = b)))) := neO_calm rfl rfl (by simp) (by simp)
@[simp] theorem x_eqL {a b : List Int} : eqO (.list (a.map .int)) (.list (b.map .int)) = some (.val (.bool (decide (a = b)))) := eqO_calm (by simp) (by simp) (by simp) (by simp)
@[simp] theorem x_neL {a b : List Int} : neO (.list (a.map .int)) (.list (b.map .int)) = some (.val (.bool (decide (¬ a = b)))) := neO_calm (by simp) (by simp) (by simp) (by simp)
theorem eqvAll_nil {ds : List PyData} : PyData.eqvAll ds [] = ds.isEmpty := by cases ds <;> rfl
@[simp] theorem x_eqDn {ds : List PyData} : eqO (.list ds) (.list []) = some (.val (.bool ds.isEmpty)) := by
  unfold eqO
  rw [if_pos (by simp)]
  simp [PyData.eqv, eqvAll_nil]
@[simp] theorem x_neDn {ds : List PyData} : neO (.list ds) (.list []) = some (.val (.bool (!ds.isEmpty))) := by
  unfold neO
  rw [if_pos (by simp)]
  simp [PyData.eqv, eqvAll_nil]
@[simp] theorem x_inL {a : Int} {ns : List Int} : inO (.int a) (.list (ns.map .int)) = some (.val (.bool (decide (a ∈ ns)))) := by
  unfold inO
  simp only [items, dep_ints, dep_int]
  rw [if_pos (by decide)]
  congr 3
  rw [Bool.eq_iff_iff]
  simp [PyData.eqv]
@[simp] theorem x_notInL {a : Int} {ns : List Int} : notInO (.int a) (.list (ns.map .int)) = some (.val (.bool (decide (¬ a ∈ ns)))) := by
  have h := x_inL (a := a) (ns := ns)
  unfold inO at h
  unfold notInO
  simp only [items, dep_ints, dep_int] at h ⊢
  rw [if_pos (by decide)] at h ⊢
  injection h with h
  injection h with h
  injection h with h
  rw [h]
  simp
theorem boolsD_map' {α : Type} {f : α → Bool} {l : List α} : boolsD (l.map fun a => .bool (f a)) = some (l.map f) := by
  induction l with
  | nil => rfl
  | cons a l ih => simp [boolsD, ih]
/-! ### places -/
theorem atI_nat {α : Type} {xs : List α} {k : Nat} : atI xs (k : Int) = xs[k]? := by
  unfold atI ixN
  rw [if_pos (by omega)]
  by_cases h : k < xs.length
  · rw [if_pos (by omega)]; simp
  · rw [if_neg (by omega)]; simp; omega
theorem atI_pos {α : Type} {xs : List α} {i : Int} (h : 0 ≤ i) : atI xs i = xs[i.toNat]? := by
  obtain ⟨k, rfl⟩ := Int.eq_ofNat_of_zero_le h
  exact atI_nat
@[simp] theorem atI_0 {α : Type} {xs : List α} : atI xs 0 = xs[0]? := atI_nat (k := 0)
@[simp] theorem atI_1 {α : Type} {xs : List α} : atI xs 1 = xs[1]? := atI_nat (k := 1)
@[simp] theorem atI_2 {α : Type} {xs : List α} : atI xs 2 = xs[2]? := atI_nat (k := 2)
theorem atI_mapF {α β : Type} {f : α → β} {xs : List α} {i : Int} : atI (xs.map f) i = (atI xs i).map f := by
  unfold atI
  rw [List.length_map]
  cases ixN xs.length i with
  | none => rfl
  | some j => simp
theorem atI_some {α : Type} {xs : List α} {i : Int} (h0 : 0 ≤ i) (h : i < xs.length) : ∃ x, atI xs i = some x ∧ x ∈ xs := by
  rw [atI_pos h0]
  exact ⟨xs[i.toNat]'(by omega), List.getElem?_eq_getElem _, List.getElem_mem _⟩
/-! ### cuts -/
def cutI {α : Type} (xs : List α) (lo hi : Option Int) : List α := (xs.drop (HT.sIx xs.length 0 lo)).take (HT.sIx xs.length xs.length hi - HT.sIx xs.length 0 lo)
theorem sIx_nat {n d k : Nat} : HT.sIx n d (some (k : Int)) = min k n := by
  unfold HT.sIx
  simp
  try omega
theorem sIx_none {n d : Nat} : HT.sIx n d none = d := rfl
/-! ### a set's length -/
/-! ### bounds -/
theorem log_lt {a : Int} {k : Nat} (h : a.natAbs < 2 ^ (k + 1)) : a.natAbs.log2 ≤ k := by
  by_cases h0 : a.natAbs = 0
  · rw [h0]; exact Nat.zero_le _
  · have := (Nat.log2_lt h0).mpr h
    omega
theorem log_small {a : Int} (h0 : -(2 ^ 200) < a) (h : a < 2 ^ 200) : a.natAbs.log2 < 200 := by
  have : a.natAbs < 2 ^ (199 + 1) := by
    have : (a.natAbs : Int) < 2 ^ 200 := by omega
    exact_mod_cast this
  have := log_lt this
  omega
theorem fdiv_ok {a b : Int} (h : 0 < b) (h2 : b < 2 ^ 200) : fdivO (.int a) (.int b) = some (.val (.int (a / b))) := by
  have := log_small (by omega) h2
  rw [x_fdiv, if_pos ⟨h, by unfold lgD; omega⟩]
theorem mod_ok {a b : Int} (h : 0 < b) : modO (.int a) (.int b) = some (.val (.int (a % b))) := by
  rw [x_mod, if_pos h]
theorem mul_ok {a b : Int} (h0 : -(2 ^ 200) < a) (h : a < 2 ^ 200) (h1 : -(2 ^ 200) < b) (h2 : b < 2 ^ 200) : mulO (.int a) (.int b) = some (.val (.int (a * b))) := by
  have := log_small h0 h
  have := log_small h1 h2
  rw [x_mul, if_pos (by unfold lgM; omega)]
@[simp] theorem pow_ok {a b : Int} (h0 : -(2 ^ 200) < a) (h : a < 2 ^ 200) (h1 : 0 ≤ b) (h2 : b ≤ 30000) : powO (.int a) (.int b) = some (.val (.int (a ^ b.toNat))) := by
  have := log_small h0 h
  rw [x_pow, if_pos ⟨h1, h2, by unfold lgP; omega⟩]
@[simp] theorem fdiv_lit {a : Int} {k : Nat} (h : 0 < k) (h2 : k < 2 ^ 200) : fdivO (.int a) (.int (no_index (OfNat.ofNat k))) = some (.val (.int (a / (OfNat.ofNat k)))) := fdiv_ok (by
    show (0 : Int) < (k : Int)
    omega) (by
    show (k : Int) < 2 ^ 200
    omega)
@[simp] theorem mod_lit {a : Int} {k : Nat} (h : 0 < k) : modO (.int a) (.int (no_index (OfNat.ofNat k))) = some (.val (.int (a % (OfNat.ofNat k)))) := mod_ok (by
    show (0 : Int) < (k : Int)
    omega)
/-! ### loops and comprehensions over the images of a list -/
def Nx (x : Flow) (Q : DSt → Prop) : Prop := ∃ s, x = .next s ∧ Q s
@[simp] theorem nx_next {s : DSt} {Q : DSt → Prop} : Nx (.next s) Q ↔ Q s := ⟨fun ⟨_, e, h⟩ => by cases e; exact h, fun h => ⟨s, rfl, h⟩⟩
def bod (b : Bd) (p : DSt → Flow) (d : PyData) (s : DSt) : Flow := match b d s with
  | some s' => p s'
  | none => .stuck
@[simp] theorem x_bod {b : Bd} {p : DSt → Flow} {d : PyData} {s : DSt} : bod b p d s = (match b d s with | some s' => p s' | none => .stuck) := Eq.trans rfl rfl
theorem take_succ {α : Type} {l : List α} {i : Nat} {a : α} (h : l[i]? = some a) : l.take (i + 1) = l.take i ++ [a] := by
  rw [List.take_add_one, h]
  rfl
theorem loopC_gen {α : Type} {b : Bd} {ft : M Bool} {fe : M R} {vs : List Nat} {s : DSt} {f : α → PyData} (sb : α → DSt) (keep : α → Bool) (g : α → PyData) (hn : noOwn vs s.d = true) : ∀ (l : List α) (acc : List PyData),
    (∀ a ∈ l, b (f a) ⟨blank vs s.d, s.w⟩ = some (sb a)) → (∀ a ∈ l, (⟨putBack vs s.d (sb a).d, (sb a).w⟩ : DSt) = s) → (∀ a ∈ l, ft (sb a) = .ok (keep a) (sb a)) → (∀ a ∈ l, keep a = true → (fe (sb a)).bind fEsc = .ok (.val (g a)) (sb a)) →
    loopC b ft fe vs (l.map f) acc s = .ok (acc ++ (l.filter keep).map g) s
  | [], acc, _, _, _, _ => by simp [loopC]
  | d :: ds, acc, h1, h2, h3, h4 => by
    have ih := fun acc => loopC_gen sb keep g hn ds acc (fun d hd => h1 d (List.mem_cons_of_mem _ hd)) (fun d hd => h2 d (List.mem_cons_of_mem _ hd)) (fun d hd => h3 d (List.mem_cons_of_mem _ hd)) (fun d hd => h4 d (List.mem_cons_of_mem _ hd))
    have e1 := h1 d List.mem_cons_self
    have e2 := h2 d List.mem_cons_self
    have e3 := h3 d List.mem_cons_self
    rw [List.map_cons]
    unfold loopC
    rw [if_pos hn, e1]
    dsimp only
    rw [e3]
    cases k : keep d with
    | false =>
      show loopC b ft fe vs (ds.map f) acc _ = _
      rw [e2, ih]
      simp [k]
    | true =>
      have e4 := h4 d List.mem_cons_self k
      show (nerr (bnd fe fEsc (sb d))).bind _ = _
      rw [bnd_app, e4]
      show loopC b ft fe vs (ds.map f) (acc ++ [g d]) _ = _
      rw [e2, ih]
      simp [k]
theorem lc_gen {α : Type} {fi : M (List PyData)} {b : Bd} {ft : M Bool} {fe : M R} {vs : List Nat} {s s1 : DSt} {f : α → PyData} {l : List α} (sb : α → DSt) (keep : α → Bool) (g : α → PyData) (hi : fi s = .ok (l.map f) s1) (hl : l.length ≤ 100000) (hn : noOwn vs s1.d = true)
    (h1 : ∀ a ∈ l, b (f a) ⟨blank vs s1.d, s1.w⟩ = some (sb a)) (h2 : ∀ a ∈ l, (⟨putBack vs s1.d (sb a).d, (sb a).w⟩ : DSt) = s1) (h3 : ∀ a ∈ l, ft (sb a) = .ok (keep a) (sb a)) (h4 : ∀ a ∈ l, keep a = true → (fe (sb a)).bind fEsc = .ok (.val (g a)) (sb a)) :
    fLc fi b ft fe vs s = .ok (.new ((l.filter keep).map g)) s1 := by
  have hl2 : leS (l.map f).length := by rw [List.length_map]; exact size_le hl
  unfold fLc
  simp only [bnd_app, hi, bind_ok, if_pos hl2]
  rw [loopC_gen sb keep g hn l [] h1 h2 h3 h4]
  simp
theorem lc_all {α : Type} {fi : M (List PyData)} {b : Bd} {fe : M R} {vs : List Nat} {s s1 : DSt} {f : α → PyData} {l : List α} (sb : α → DSt) (g : α → PyData) (hi : fi s = .ok (l.map f) s1) (hl : l.length ≤ 100000) (hn : noOwn vs s1.d = true)
    (h1 : ∀ a ∈ l, b (f a) ⟨blank vs s1.d, s1.w⟩ = some (sb a)) (h2 : ∀ a ∈ l, (⟨putBack vs s1.d (sb a).d, (sb a).w⟩ : DSt) = s1) (h4 : ∀ a ∈ l, (fe (sb a)).bind fEsc = .ok (.val (g a)) (sb a)) :
    fLc fi b fYes fe vs s = .ok (.new (l.map g)) s1 := by
  rw [lc_gen (ft := fYes) sb (fun _ => true) g hi hl hn h1 h2 (fun _ _ => rfl) (fun a ha _ => h4 a ha), List.filter_eq_self.mpr (fun _ _ => rfl)]
/-! ### loops whose states are known -/
end DL

/-! DL18: more pieces: three at once; sorted(set(..)) -/
noncomputable section
namespace DL
open PySem L2 PyProof.Rows
open Evl (Ex)
section
variable {X : Cx} {cl : String → Addr} {W : WX} {e a b c : Expr} {es : List Expr} {f g : M R} {fs : M (List R)} {pos : Pos} {p q : DSt → Flow}
def kPar3 (i j l : Nat) (rs : List R) (s : DSt) : Flow := match rs with
  | [r1, r2, r3] => if i < s.d.length ∧ j < s.d.length ∧ l < s.d.length then .next (putS l (toSl r3) (putS j (toSl r2) (putS i (toSl r1) s))) else .stuck
  | _ => .stuck
@[simp] theorem y_kPar3 (i j l : Nat) (rs : List R) (s : DSt) : kPar3 i j l rs s = (match rs with | [r1, r2, r3] => if i < s.d.length ∧ j < s.d.length ∧ l < s.d.length then .next (putS l (toSl r3) (putS j (toSl r2) (putS i (toSl r1) s))) else .stuck | _ => .stuck) := Eq.trans rfl rfl
def fPar3 (i j l : Nat) (fs : M (List R)) : DSt → Flow := fun s => onRes (fs s) (kPar3 i j l)
@[simp] theorem x_par3 {i j l : Nat} {s : DSt} : fPar3 i j l fs s = onRes (fs s) (kPar3 i j l) := Eq.trans rfl rfl
end
/-! ### loops with a state, that may hand back -/
def foldS {α β : Type} (step : β → α → Sum β R) : β → List α → Sum β R
  | x, [] => .inl x
  | x, a :: l => match step x a with
    | .inl y => foldS step y l
    | .inr r => .inr r
end DL

/-! DL19: e[:0:-1]; list(range(..)); sorted(set(..)) of ints -/
noncomputable section
namespace DL
open PySem L2 PyProof.Rows
open Evl (Ex)
/-! ### e[:0:-1] -/
section
variable {X : Cx} {cl : String → Addr} {W : WX} {e a b c : Expr} {es : List Expr} {f g : M R} {fs : M (List R)} {pos : Pos} {p q : DSt → Flow}
def tRevTo (K : PySem.W.Frag) (te : TE) : TE := fun σ H Q => te σ H fun x H1 => ∃ a xs, x = .ref a ∧ SqL K H1 a xs ∧ ∀ p, H1 p = none → Q (.ref p) (upd H1 p (.lst (xs.drop 1).reverse))
def revToO : PyData → Option R
  | .list ds => some (.new (ds.drop 1).reverse)
  | _ => none
@[simp] theorem x_revTo {ds : List PyData} : revToO (.list ds) = some (.new (ds.drop 1).reverse) := Eq.trans rfl rfl
/-! ### list(range(..)) -/
def rgS (a b : Int) : Prop := RgOk a b
instance (a b : Int) : Decidable (rgS a b) := Classical.propDecidable _
@[simp] theorem rgS_of {a b : Int} (h0 : 0 ≤ a) (h1 : b ≤ 16777216) (h2 : a ≤ 16777216) (h3 : 0 ≤ b) : rgS a b := RgOk.of_le h0 h1 h2 h3
def kLRng (a : Int) (r : R) (s : DSt) : Res R := match look r s with
  | some (.int b) => if rgS a b then .ok (.new (rangeD a (b - a).toNat)) s else .stuck
  | _ => .stuck
@[simp] theorem y_kLRng (a : Int) (r : R) (s : DSt) : kLRng a r s = (match look r s with | some (.int b) => if rgS a b then .ok (.new (rangeD a (b - a).toNat)) s else .stuck | _ => .stuck) := Eq.trans rfl rfl
def fLRng1 (f : M R) : M R := bnd f (kLRng 0)
@[simp] theorem x_lRng1 {f : M R} {s : DSt} : fLRng1 f s = (f s).bind (kLRng 0) := Eq.trans rfl rfl
def kLRng2 (g : M R) (r : R) (s : DSt) : Res R := match look r s with
  | some (.int a) => (g s).bind (kLRng a)
  | _ => .stuck
@[simp] theorem y_kLRng2 (g : M R) (r : R) (s : DSt) : kLRng2 g r s = (match look r s with | some (.int a) => (g s).bind (kLRng a) | _ => .stuck) := Eq.trans rfl rfl
def fLRng2 (f g : M R) : M R := bnd f (kLRng2 g)
@[simp] theorem x_lRng2 {f g : M R} {s : DSt} : fLRng2 f g s = (f s).bind (kLRng2 g) := Eq.trans rfl rfl
end
end DL

/-! DL20: str of data -/
noncomputable section
namespace DL
open PySem L2 PyProof.Rows
open Evl (Ex)
def showOk (d : PyData) : Prop := d.showable = true ∧ d.hasDict = false ∧ d.shown.length ≤ sizeLine ∧ d.depth ≤ 60
instance (d : PyData) : Decidable (showOk d) := Classical.propDecidable _
def lgT (i : Int) : Prop := i.natAbs.log2 < 1920
instance (i : Int) : Decidable (lgT i) := Classical.propDecidable _
def strO (d : PyData) : Option R := match d with
  | .int i => if lgT i then some (.val (.str (Str.ofString (toString i)))) else none
  | .str x => some (.val (.str x))
  | .list ds => if showOk (.list ds) then some (.val (.str (PyData.list ds).shown)) else none
  | .tuple ds => if showOk (.tuple ds) then some (.val (.str (PyData.tuple ds).shown)) else none
  | _ => none
def kStr (r : R) (s : DSt) : Res R := match look r s with
  | some d => (match strO d with
    | some r => .ok r s
    | none => .stuck)
  | none => .stuck
@[simp] theorem y_kStr (r : R) (s : DSt) : kStr r s = (match look r s with | some d => (match strO d with | some r => .ok r s | none => .stuck) | none => .stuck) := Eq.trans rfl rfl
def fStr (f : M R) : M R := bnd f kStr
@[simp] theorem x_str {f : M R} {s : DSt} : fStr f s = (f s).bind kStr := Eq.trans rfl rfl
section
variable {X : Cx} {cl : String → Addr} {W : WX} {e a b c : Expr} {es : List Expr} {f g : M R} {fs : M (List R)} {pos : Pos} {p q : DSt → Flow}
def rStr (K : PySem.W.Frag) : List V → Hp → VK → Prop := fun vs H Q => (∃ i, vs = [.int i] ∧ i.natAbs.log2 < 1920 ∧ Q (.str (Str.ofString (toString i))) H) ∨ (∃ x, vs = [.str x] ∧ Q (.str x) H) ∨
  ∃ a d, vs = [.ref a] ∧ Dp K H (.ref a) d ∧ showOk d ∧ Q (.str d.shown) H
theorem cr_str {k : Nat} (hr : RoomG k X.A) : CallR X (.type "str") (rStr X.K) := by
  intro pins s σ H vs us Q I rv h
  rcases h with ⟨i, rfl, hz, q⟩ | ⟨x, rfl, q⟩ | ⟨a, d, rfl, hd, ⟨h1, h2, h3, h4⟩, q⟩
  · cases rv with
    | cons h t =>
      cases t
      obtain ⟨t, rfl⟩ := h
      exact PySem.P.str_of_int hz ⟨.str _, H, I.tok _, ⟨_, rfl⟩, q⟩
  · cases rv with
    | cons h t =>
      cases t
      obtain ⟨t, rfl⟩ := h
      exact PySem.P.str_of_str ⟨.str _, H, I, ⟨_, rfl⟩, q⟩
  · cases rv with
    | cons h t =>
      cases t
      have h : _ = Value.ref a := h
      subst h
      obtain ⟨as, rd⟩ := Dp.reads I d (.ref a) (.ref a) hd rfl
      exact str_of_reads rd h1 (fun z => by rw [h2] at z; cases z) hr.quiet (by have := hr.units; omega) (fun _ _ z => z) (fun h' u tk hk => ⟨.str _, H, I.kept hk, ⟨_, rfl⟩, q⟩) h3
theorem d_strC {k : Nat} {pn : Pos} (hr : RoomG k X.A) (hg : Gl X "str") (hm : X.mg "str" = none) (ha : DE X cl W a f)
    (na : starEach [a] X.env = (false, eval a X.env) :: starEach [] X.env := by rfl) : DE X cl W (.Call (.Name "str" pn) [a] [] pos) (fStr f) := by
  refine pe_imp (pe_callTy (cr_str hr) hg hm (by decide +kernel) (pa_cons ha pa_nil na) (by decide) (by decide) na rfl) fun σ H Q ⟨G, s, S, q⟩ => ?_
  refine ⟨G, s, S, out_mono (out_bind q) fun x G1 s1 H1 st1 S1 k v rr => ?_⟩
  unfold kStr at k
  split at k
  · rename_i d e1
    have hq := look_q S1 rr e1
    split at k
    · rename_i r' eo
      unfold strO at eo
      split at eo
      · split at eo
        · rename_i hz
          cases eo
          exact .inl ⟨_, by rw [dq_int hq], hz, k G1 H1 Stp.refl S1 _ (.str _)⟩
        · cases eo
      · cases eo
        exact .inr (.inl ⟨_, by rw [dq_str hq], k G1 H1 Stp.refl S1 _ (.str _)⟩)
      · split at eo
        · rename_i hz
          cases eo
          have hp := look_ok S1 rr e1
          have hd := rp_dp _ _ hp
          obtain ⟨p, xs, rfl, _⟩ := dq_lst hq
          exact .inr (.inr ⟨p, _, rfl, hd, hz, k G1 H1 Stp.refl S1 _ (.str _)⟩)
        · cases eo
      · split at eo
        · rename_i hz
          cases eo
          have hp := look_ok S1 rr e1
          have hd := rp_dp _ _ hp
          obtain ⟨p, xs, rfl, _⟩ := dq_tup S1.gh hq
          exact .inr (.inr ⟨p, _, rfl, hd, hz, k G1 H1 Stp.refl S1 _ (.str _)⟩)
        · cases eo
      · cases eo
    · exact k.elim
  · exact k.elim
end
/-! ### how long what is shown is -/
mutual
def wgt : PyData → Nat
  | .list xs | .tuple xs => wgtA xs + 10
  | .str x => 10 * x.length + 100
  | _ => 100
def wgtA : List PyData → Nat
  | [] => 0
  | x :: xs => wgt x + 2 + wgtA xs
end
mutual
def smallD : PyData → Bool
  | .none | .bool _ => true
  | .int i => decide (i.natAbs < 10 ^ 90)
  | .list xs | .tuple xs => smallA xs
  | .str x => x.cps.toList.all fun c => decide (c < 16 ^ 8)
  | _ => false
def smallA : List PyData → Bool
  | [] => true
  | x :: xs => smallD x && smallA xs
end
theorem int_shown {i : Int} (h : i.natAbs < 10 ^ 90) : (Str.ofString (toString i)).length ≤ 91 := by
  rw [ofString_len]
  cases i with
  | ofNat m =>
    have := digits10_le (k := 90) (n := m) (by decide) h
    show (Nat.repr m).length ≤ _
    simp [Nat.repr]
    omega
  | negSucc m =>
    have := digits10_le (k := 90) (n := m + 1) (by decide) h
    show ("-" ++ Nat.repr (m + 1)).length ≤ _
    have h1 : "-".length = 1 := by first | rfl | decide
    simp [Nat.repr, h1]
    omega
theorem listText_le (ts : List Str) : (listText ts).length ≤ piled ts + 4 := by
  unfold listText
  rw [strLen_append]
  have e1 : (("]" : String) : Str).length = 1 := rfl
  have e2 : (("[" : String) : Str).length = 1 := rfl
  rw [e1]
  cases ts with
  | nil => show (("[" : String) : Str).length + 1 ≤ _; rw [e2]; omega
  | cons t ts =>
    show (textFrom (0 + 1) _ ts).length + 1 ≤ _
    rw [textFrom_length_pos _ _ _ (by decide), strLen_append, strLen_append, e2, piled_cons]
    have : (((if 0 > 0 then ", " else "" : String) : Str)).length = 0 := rfl
    omega
theorem tupleText_le (ts : List Str) : (tupleText ts).length ≤ piled ts + 4 := by
  unfold tupleText
  rw [strLen_append, strLen_append]
  have e1 : ((("(" : String) : Str)).length = 1 := rfl
  have e3 : (((if ts.length == 1 then ",)" else ")" : String) : Str)).length ≤ 2 := by split <;> decide
  rw [e1]
  by_cases h : ts = []
  · subst h
    have : (Str.join ", " []).length = 0 := rfl
    omega
  · have := join_length_add ts h
    omega
mutual
theorem shown_le : ∀ d : PyData, smallD d = true → d.shown.length ≤ wgt d ∧ d.showable = true ∧ d.hasDict = false
  | .none, _ => ⟨by show (("None" : String) : Str).length ≤ 100; decide, rfl, rfl⟩
  | .bool b, _ => ⟨by cases b <;> (first | (show (("True" : String) : Str).length ≤ 100; decide) | (show (("False" : String) : Str).length ≤ 100; decide)), rfl, rfl⟩
  | .int i, h => by
    have hi : i.natAbs < 10 ^ 90 := by simpa [smallD] using h
    refine ⟨?_, ?_, rfl⟩
    · have := int_shown hi
      show (Str.ofString (toString i)).length ≤ 100
      omega
    · simp only [PyData.showable, decide_eq_true_eq]
      exact Nat.lt_of_le_of_lt (log_lt (k := 299) (Nat.lt_of_lt_of_le hi (by decide +kernel))) (by decide)
  | .list xs, h => by
    obtain ⟨h1, h2, h3⟩ := shownA_le xs (by simpa [smallD] using h)
    refine ⟨?_, by simpa [PyData.showable] using h2, by simpa [PyData.hasDict] using h3⟩
    have := listText_le (PyData.shownAll xs)
    simp only [PyData.shown, wgt]
    omega
  | .tuple xs, h => by
    obtain ⟨h1, h2, h3⟩ := shownA_le xs (by simpa [smallD] using h)
    refine ⟨?_, by simpa [PyData.showable] using h2, by simpa [PyData.hasDict] using h3⟩
    have := tupleText_le (PyData.shownAll xs)
    simp only [PyData.shown, wgt]
    omega
  | .str x, h => by
    refine ⟨?_, rfl, rfl⟩
    have := PySem.StrLaws.reprText_len x fun c hc => by
      have h : (x.cps.toList.all fun c => decide (c < 16 ^ 8)) = true := h
      exact of_decide_eq_true (List.all_eq_true.mp h c hc)
    show (reprText x).length ≤ 10 * x.length + 100
    omega
  | .dict _, h => by simp [smallD] at h
theorem shownA_le : ∀ xs : List PyData, smallA xs = true → piled (PyData.shownAll xs) ≤ wgtA xs ∧ PyData.showableAll xs = true ∧ PyData.hasDictAll xs = false
  | [], _ => ⟨Nat.le_refl _, rfl, rfl⟩
  | x :: xs, h => by
    simp only [smallA, Bool.and_eq_true] at h
    obtain ⟨a1, a2, a3⟩ := shown_le x h.1
    obtain ⟨b1, b2, b3⟩ := shownA_le xs h.2
    simp only [PyData.shownAll, PyData.showableAll, PyData.hasDictAll, piled_cons, wgtA, a2, a3, b2, b3]
    refine ⟨by omega, rfl, rfl⟩
end
@[simp] theorem wgtA_ints {ns : List Int} : wgtA (ns.map .int) = 102 * ns.length := by
  induction ns with
  | nil => rfl
  | cons a l ih => simp only [List.map_cons, wgtA, wgt, ih, List.length_cons]; omega
@[simp] theorem wgt_list {xs : List PyData} : wgt (.list xs) = wgtA xs + 10 := rfl
@[simp] theorem wgt_tuple {xs : List PyData} : wgt (.tuple xs) = wgtA xs + 10 := rfl
@[simp] theorem wgt_int {i : Int} : wgt (.int i) = 100 := rfl
@[simp] theorem wgtA_nil : wgtA [] = 0 := rfl
@[simp] theorem wgtA_cons {x : PyData} {xs : List PyData} : wgtA (x :: xs) = wgt x + 2 + wgtA xs := rfl
@[simp] theorem small_list {xs : List PyData} : smallD (.list xs) = smallA xs := rfl
@[simp] theorem small_tuple {xs : List PyData} : smallD (.tuple xs) = smallA xs := rfl
@[simp] theorem small_nil : smallA [] = true := rfl
@[simp] theorem small_cons {x : PyData} {xs : List PyData} : smallA (x :: xs) = (smallD x && smallA xs) := rfl
end DL

/-! DL21: a call that only looks: own lists that are handed in stay own -/
noncomputable section
namespace DL
open PySem L2 PyProof.Rows
open Evl (Ex)
def atomD : PyData → Bool
  | .none | .bool _ | .int _ | .str _ => true
  | _ => false
def atomR : R → Bool
  | .val d => atomD d
  | .raw _ => false
  | .ob _ => false
  | .new ds => ds.all atomD
  | .slot _ => false
def seen (r : R) (s : DSt) : Option R := match r with
  | .raw v => some (.raw v)
  | .ob o => some (.ob o)
  | r => (look r s).map .val
def seens : List R → DSt → Option (List R)
  | [], _ => some []
  | r :: rs, s => match seen r s, seens rs s with
    | some a, some as => some (a :: as)
    | _, _ => none
def kUserP (F : List R → Pw → FRes) (rs : List R) (s : DSt) : Res R := match seens rs s with
  | some rs' => (match F rs' s.w with
    | .ok r w' => if atomR r = true then .ok r ⟨s.d, w'⟩ else .stuck
    | _ => .stuck)
  | none => .stuck
@[simp] theorem y_kUserP (F : List R → Pw → FRes) (rs : List R) (s : DSt) : kUserP F rs s = (match seens rs s with | some rs' => (match F rs' s.w with | .ok r w' => if atomR r = true then .ok r ⟨s.d, w'⟩ else .stuck | _ => .stuck) | none => .stuck) := Eq.trans rfl rfl
def fUserP (F : List R → Pw → FRes) (fs : M (List R)) : M R := bnd fs (kUserP F)
@[simp] theorem x_userP {F : List R → Pw → FRes} {fs : M (List R)} {s : DSt} : fUserP F fs s = (fs s).bind (kUserP F) := Eq.trans rfl rfl
@[simp] theorem x_seens_nil {s : DSt} : seens [] s = some [] := Eq.trans rfl rfl
@[simp] theorem x_seens_cons {r : R} {rs : List R} {s : DSt} : seens (r :: rs) s = (match seen r s, seens rs s with | some a, some as => some (a :: as) | _, _ => none) := Eq.trans rfl rfl
@[simp] theorem x_seen_raw {v : V} {s : DSt} : seen (.raw v) s = some (.raw v) := Eq.trans rfl rfl
@[simp] theorem x_seen_val {d : PyData} {s : DSt} : seen (.val d) s = some (.val d) := Eq.trans rfl rfl
@[simp] theorem x_seen_new {ds : List PyData} {s : DSt} : seen (.new ds) s = some (.val (.list ds)) := Eq.trans rfl rfl
@[simp] theorem x_seen_slot {i : Nat} {s : DSt} : seen (.slot i) s = (look (.slot i) s).map .val := Eq.trans rfl rfl
@[simp] theorem atomR_new {ds : List PyData} : atomR (.new ds) = ds.all atomD := rfl
@[simp] theorem atomR_val {d : PyData} : atomR (.val d) = atomD d := rfl
@[simp] theorem atomD_int {d : Int} : atomD (.int d) = true := rfl
@[simp] theorem atomD_bool {d : Bool} : atomD (.bool d) = true := rfl
@[simp] theorem atomD_str {d : Str} : atomD (.str d) = true := rfl
@[simp] theorem atomD_none : atomD .none = true := rfl
@[simp] theorem atomD_ints {ns : List Int} : (ns.map PyData.int).all atomD = true := by
  induction ns with
  | nil => rfl
  | cons a l ih => simp [ih]
section
variable {K : PySem.W.Frag} {G H G1 G' H' : Hp} {s : DSt} {σ : L2.St} {w' : Pw}
def allG (w : Pw) (H : Hp) : Hp := fun a => @ite _ (POwn w a) (Classical.propDecidable _) none (H a)
theorem allG_out {w : Pw} {a : Addr} (h : ¬ POwn w a) : allG w H a = H a := by unfold allG; rw [if_neg h]
theorem allG_in {w : Pw} {a : Addr} (h : POwn w a) : allG w H a = none := by unfold allG; rw [if_pos h]
theorem allG_ex {w : Pw} : Ex (allG w H) H := fun a o e => by
  by_cases h : POwn w a
  · rw [allG_in h] at e; cases e
  · rwa [allG_out h] at e
end
section
variable {X : Cx} {cl : String → Addr} {W : WX} {e : Expr} {es : List Expr} {fs : M (List R)} {pos : Pos}
end
theorem range_D (n : Nat) : (List.range n).map (fun (k : Nat) => PyData.int (k : Int)) = rangeD 0 n := by simp [rangeD]
end DL

/-! DL22: comprehensions that draw -/
noncomputable section
namespace DL
open PySem L2
theorem loopC_s {α : Type} {b : Bd} {ft : M Bool} {fe : M R} {vs : List Nat} {f : α → PyData} (Inv : Nat → List PyData → DSt → Prop) : ∀ (l : List α) (acc : List PyData) (s : DSt) (i : Nat), Inv i acc s →
    (∀ (j : Nat) (a : α), l[j]? = some a → ∀ acc s, Inv (i + j) acc s → noOwn vs s.d = true ∧ ∃ s1, b (f a) ⟨blank vs s.d, s.w⟩ = some s1 ∧ ∃ k s2, ft s1 = .ok k s2 ∧ (k = false → Inv (i + j + 1) acc ⟨putBack vs s.d s2.d, s2.w⟩) ∧ (k = true → ∃ x s3, (fe s2).bind fEsc = .ok (.val x) s3 ∧ Inv (i + j + 1) (acc ++ [x]) ⟨putBack vs s.d s3.d, s3.w⟩)) →
    ∃ out s', loopC b ft fe vs (l.map f) acc s = .ok out s' ∧ Inv (i + l.length) out s'
  | [], acc, s, i, h, _ => ⟨acc, s, by simp [loopC], h⟩
  | a :: l, acc, s, i, h, st => by
    obtain ⟨hn, s1, e1, k, s2, e3, kf, kt⟩ := st 0 a rfl acc s h
    have ih := fun acc s h => loopC_s Inv l acc s (i + 1) h fun j a hj acc s h => by
      have := st (j + 1) a (by simpa using hj) acc s (by rw [show i + (j + 1) = i + 1 + j by omega]; exact h)
      rwa [show i + (j + 1) = i + 1 + j by omega] at this
    rw [show i + (a :: l).length = i + 1 + l.length by simp; omega]
    rw [List.map_cons]
    unfold loopC
    rw [if_pos hn, e1]
    dsimp only
    rw [e3]
    cases k with
    | false =>
      obtain ⟨out, s', e, hi⟩ := ih acc _ (kf rfl)
      exact ⟨out, s', e, hi⟩
    | true =>
      obtain ⟨x, s3, e4, h4⟩ := kt rfl
      obtain ⟨out, s', e, hi⟩ := ih _ _ h4
      refine ⟨out, s', ?_, hi⟩
      show (nerr (bnd fe fEsc s2)).bind _ = _
      rw [bnd_app, e4]
      exact e
theorem lc_s {α : Type} {fi : M (List PyData)} {b : Bd} {ft : M Bool} {fe : M R} {vs : List Nat} {s s0 : DSt} {f : α → PyData} {l : List α} (Inv : Nat → List PyData → DSt → Prop) (hi : fi s = .ok (l.map f) s0) (hl : l.length ≤ 100000) (h0 : Inv 0 [] s0)
    (st : ∀ (j : Nat) (a : α), l[j]? = some a → ∀ acc s, Inv j acc s → noOwn vs s.d = true ∧ ∃ s1, b (f a) ⟨blank vs s.d, s.w⟩ = some s1 ∧ ∃ k s2, ft s1 = .ok k s2 ∧ (k = false → Inv (j + 1) acc ⟨putBack vs s.d s2.d, s2.w⟩) ∧ (k = true → ∃ x s3, (fe s2).bind fEsc = .ok (.val x) s3 ∧ Inv (j + 1) (acc ++ [x]) ⟨putBack vs s.d s3.d, s3.w⟩)) :
    ∃ out s', fLc fi b ft fe vs s = .ok (.new out) s' ∧ Inv l.length out s' := by
  obtain ⟨out, s', e, h⟩ := loopC_s Inv l [] s0 0 h0 fun j a hj acc s h => by
    rw [Nat.zero_add] at h ⊢
    exact st j a hj acc s h
  rw [Nat.zero_add] at h
  refine ⟨out, s', ?_, h⟩
  have hl2 : leS (l.map f).length := by rw [List.length_map]; exact size_le hl
  unfold fLc
  simp only [bnd_app, hi, bind_ok, if_pos hl2]
  rw [e]
  rfl
end DL

/-! DL23: dicts that are known -/
noncomputable section
namespace DL
open PySem L2 PyProof.Rows
open Evl (Ex)
def keyD : PyData → Option Key
  | .int i => some (.inl i)
  | .str x => some (.inr x)
  | _ => none
def valD {κ : Type} [DecidableEq κ] (kvs : List (κ × PyData)) (k : κ) : Option PyData := (kvs.find? fun kv => decide (kv.1 = k)).map (·.2)
theorem valD_cons {κ : Type} [DecidableEq κ] {k j : κ} {d : PyData} {kvs : List (κ × PyData)} : valD ((k, d) :: kvs) j = if k = j then some d else valD kvs j := by
  unfold valD
  by_cases e : k = j <;> simp [List.find?_cons, e]
def fDictC (kvs : List (Str × Int)) : M R := ret (.ob (.dict (kvs.map fun p => (.inr p.1, .int p.2))))
def kDGet (g : M R) (x : R) (s : DSt) : Res R := match x with
  | .ob (.dict kvs) => (g s).bind fun y s2 => match look y s2 with
    | some d => match keyD d with
      | some k => match valD kvs k with
        | some e => .ok (.val e) s2
        | none => .stuck
      | none => .stuck
    | none => .stuck
  | _ => .stuck
def fDGet (f g : M R) : M R := bnd f (kDGet g)
def kDIn (neg : Bool) (y x : R) (s : DSt) : Res R := match look y s, x with
  | some d, .ob (.dict kvs) => match keyD d with
    | some k => .ok (.val (.bool (if neg then !(valD kvs k).isSome else (valD kvs k).isSome))) s
    | none => .stuck
  | _, _ => .stuck
def fDIn (neg : Bool) (f g : M R) : M R := bnd f fun y => bnd g fun x => kDIn neg y x
section
variable {X : Cx} {cl : String → Addr} {W : WX} {e a b : Expr} {f g : M R} {pos : Pos}
end
/-! ### a < b < c -/
def kChain3 (o' : R → R → M R) (h : M R) (y : R) (z : R) (s : DSt) : Res R := match look z s with
  | some (.bool true) => (h s).bind fun w => o' y w
  | some (.bool false) => .ok (.val (.bool false)) s
  | _ => .stuck
def kChain2 (o o' : R → R → M R) (h : M R) (x : R) (y : R) (s : DSt) : Res R := (o x y s).bind (kChain3 o' h y)
def kChain1 (o o' : R → R → M R) (g h : M R) (x : R) (s : DSt) : Res R := (g s).bind (kChain2 o o' h x)
def fChain (o o' : R → R → M R) (f g h : M R) : M R := bnd f (kChain1 o o' g h)
section
variable {X : Cx} {cl : String → Addr} {W : WX} {e a b c : Expr} {f g h : M R} {pos : Pos}
end
section
variable {s : DSt} {f g : M R} {kvs : List (Key × PyData)} {x y : R} {d : PyData} {z : Str} {i : Int}
@[simp] theorem x_dictC {ws : List (Str × Int)} : fDictC ws s = .ok (.ob (.dict (ws.map fun p => (.inr p.1, .int p.2)))) s := Eq.trans rfl rfl
def kDGet2 (kvs : List (Key × PyData)) (y : R) (s2 : DSt) : Res R := match look y s2 with
    | some d => match keyD d with
      | some k => match valD kvs k with
        | some e => .ok (.val e) s2
        | none => .stuck
      | none => .stuck
    | none => .stuck
@[simp] theorem y_kDGet2 {s2 : DSt} : kDGet2 kvs y s2 = (match look y s2 with
    | some d => match keyD d with
      | some k => match valD kvs k with
        | some e => .ok (.val e) s2
        | none => .stuck
      | none => .stuck
    | none => .stuck) := Eq.trans rfl rfl
@[simp] theorem y_kDGet : kDGet g (.ob (.dict kvs)) s = (g s).bind (kDGet2 kvs) := Eq.trans rfl rfl
@[simp] theorem x_dget : fDGet f g s = (f s).bind (kDGet g) := Eq.trans rfl rfl
@[simp] theorem x_chain {o o' : R → R → M R} {h : M R} : fChain o o' f g h s = (f s).bind (kChain1 o o' g h) := Eq.trans rfl rfl
@[simp] theorem y_kChain1 {o o' : R → R → M R} {h : M R} : kChain1 o o' g h x s = (g s).bind (kChain2 o o' h x) := Eq.trans rfl rfl
@[simp] theorem y_kChain2 {o o' : R → R → M R} {h : M R} : kChain2 o o' h x y s = (o x y s).bind (kChain3 o' h y) := Eq.trans rfl rfl
def kChain4 (o' : R → R → M R) (y w : R) (s : DSt) : Res R := o' y w s
@[simp] theorem y_kChain4 {o' : R → R → M R} : kChain4 o' x y s = o' x y s := Eq.trans rfl rfl
@[simp] theorem y_kChain3 {o' : R → R → M R} {h : M R} {z : Bool} : kChain3 o' h y (.val (.bool z)) s = if z = true then (h s).bind (kChain4 o' y) else .ok (.val (.bool false)) s := by cases z <;> rfl
def kDIn1 (neg : Bool) (g : M R) (y : R) (s : DSt) : Res R := (g s).bind (kDIn neg y)
@[simp] theorem y_kDIn1 {neg : Bool} : kDIn1 neg g y s = (g s).bind (kDIn neg y) := Eq.trans rfl rfl
@[simp] theorem y_kDIn {neg : Bool} : kDIn neg y (.ob (.dict kvs)) s = (match look y s with
  | some d => match keyD d with
    | some k => .ok (.val (.bool (if neg then !(valD kvs k).isSome else (valD kvs k).isSome))) s
    | none => .stuck
  | none => .stuck) := by
  unfold kDIn
  cases look y s <;> rfl
@[simp] theorem x_dIn {neg : Bool} : fDIn neg f g s = (f s).bind (kDIn1 neg g) := Eq.trans rfl rfl
@[simp] theorem x_keyI : keyD (.int i) = some (.inl i) := Eq.trans rfl rfl
@[simp] theorem x_keyS : keyD (.str z) = some (.inr z) := Eq.trans rfl rfl
@[simp] theorem x_valD_nil {k : Key} : valD [] k = none := Eq.trans rfl rfl
@[simp] theorem x_valD_cons {k j : Key} : valD ((k, d) :: kvs) j = if k = j then some d else valD kvs j := valD_cons
end
end DL

/-! DL24: errors raised, caught and kept -/
noncomputable section
namespace DL
open PySem L2 PyProof.Rows PySem.Spec
open Evl (Ex)
/-! ### raise -/
def fRaise (n : String) : DSt → Flow := fun s => .err ⟨n, none⟩ s
section
variable {X : Cx} {cl : String → Addr} {W : WX} {pos : Pos}
end
/-! ### what is caught is kept: it is a thing of the heap from then on -/
section
variable {X : Cx} {pins : List (Addr × Obj)} {σ : L2.St} {H : Hp} {s sI : Shared} {a : Addr} {cls : Value} {d : Option Addr}
theorem exc_ok {P : Program} {w : World} {h : Heap} {oe : Obj} (e : h.get? a = some oe) (z : Zc cls d oe) (hv : ∃ vs, oe.data = .fields vs) : ObjOk P w H h a (excO a cls d) :=
  ⟨⟨oe, e, z, hv⟩, ⟨oe, e⟩, fun h1 h2 ⟨o, e1, z1, v1⟩ k => ⟨o, k o e1, z1, v1⟩⟩
theorem inv_more {φ : Heap → Prop} (I : Inv X pins σ H s) (n0 : X.s_0.heap.get? a = none) (hn : H a = none) (new : ∀ H', ObjOk X.prog X.w H' s.heap a (.ext φ)) (hp : ∀ p ∈ X.pn ++ pins, p.1 ≠ a) (nL : a ≠ X.env.locals)
    (nC : ∀ x c, X.env.cells.lookup x = some c → c ≠ a) : Inv X pins σ (upd H a (.ext φ)) s := by
  have ne0 : ∀ b o, X.s_0.heap.get? b = some o → b ≠ a := fun b o e z => by rw [z, n0] at e; cases e
  have neH : ∀ b o, H b = some o → b ≠ a := fun b o e z => by rw [z, hn] at e; cases e
  refine ⟨I.ok, I.os, I.bare, ⟨I.base.keep, I.base.slot, fun b o e z x => ?_, I.base.there, fun b xs e => ?_, fun b o u e => ?_, fun b ps e => ?_⟩, I.loc, I.cell, ?_, fun x c e => ?_, fun p hm => ?_, I.hok.laidN (fun _ _ q => q) hn (new _), I.len⟩
  · rw [upd_ne (ne0 b o e)]; exact I.base.free b o e z x
  · have := I.base.tups b xs e
    rw [upd_ne (neH _ _ this)]; exact this
  · have := I.base.frzs b o u e
    rw [upd_ne (neH _ _ this)]; exact this
  · obtain ⟨more, q⟩ := I.base.tbls b ps e
    exact ⟨more, by rw [upd_ne (neH _ _ q)]; exact q⟩
  · rw [upd_ne nL.symm]; exact I.free
  · rw [upd_ne (nC x c e)]; exact I.freeC x c e
  · obtain ⟨h1, h2, h3⟩ := I.pin p hm
    exact ⟨h1, by rw [upd_ne (hp p hm)]; exact h2, h3⟩
end
def wKeep (K : PySem.W.Frag) (c : Value) (i j : Nat) (Wout : WX) (D : Ends) : WX := fun cls d σ H =>
  ∃ b, PySem.W.exmOne K cls c = some b ∧ (b = true → ∀ a, H a = none → i < σ.length ∧ D.nx (((σ.set i (some (.ref a))).set j (some (.ref a))).set i none) (upd H a (excO a cls d))) ∧ (b = false → Wout cls d σ H)
section
variable {X : Cx} {x n : Str} {c : Value} {i j : Nat} {body suite : List Stmt} {b₀ : Stmt} {np pos pos' : Pos} {tb : WX → TS} {Wout : WX}
theorem try_keep (hs : X.stack = X.env :: X.outer) (hf : X.env.frame = some X.env.locals) (hx : X.ex = []) (hN : X.N.Nodup) (hi : X.N[i]? = some n) (hln : X.env.kindOf n = some .local) (hc : Names X x c) (tk : Takes X Wout)
    (hb : ∀ (W : WX) (pn : List (Addr × Obj)) (xe : Value → Shared → Prop), Takes (X.tr pn xe) W → PassesOwn (model X.prog X.w) X.A X.env xe → PSs (X.tr pn xe) body (tb W))
    (hsu : ∀ (a : Addr) (oe : Obj) (pn : List (Addr × Obj)), PSs (X.suite a ((a, oe) :: pn)) (b₀ :: suite) (tAsg (tVar i) (gName j))) :
    PS X (.Try body [.ExceptHandler (some (.Name x np)) (some n) (b₀ :: suite) pos'] [] [] pos) (fun D σ H => tb (wKeep X.K c i j Wout D) D σ H) := by
  refine ⟨fun pins s σ H D I h => ?_⟩
  have ok := I.ok
  have hfr : X.A.frames = some (X.env :: X.outer) := by rw [ok.frames, hs]
  have hloc : Loc X.env.scope n := .inl hln
  refine wpAny_Try_except ?_
  refine wpAny_mono ((hb (wKeep X.K c i j Wout D) (X.pn ++ pins) (fun e s₁ => wpAny (model X.prog X.w) X.A (noteFrame e X.env) (fun _ s₂ => wpAny (model X.prog X.w) X.A (setFlight e none) (fun _ s₃ =>
    wpAny (model X.prog X.w) X.A (handleBy e X.env [.ExceptHandler (some (.Name x np)) (some n) (b₀ :: suite) pos']) (SP X pins D) X.xe s₃) X.xe s₂) X.xe s₁) (fun u s' xx => ?_) PassesOwn.looking).run [] s σ H D (I.toTry _) h) (fun f s1 hsp => ?_) (fun e s1 he => he)
  · obtain ⟨a, B, sI, pins', σ', H', cls, d, rfl, J', nb, up, sky, na, os, ag, b, hb1, hyes, hno⟩ := xx
    have J : Inv X pins σ' H' sI := J'.ofTry ok
    have sky' : Sky B (X.env :: X.outer) a (Zc cls d) X.env.locals s'.heap := by rw [← hs]; exact sky
    show wpAny _ X.A (noteFrame (.ref a) X.env) _ _ _
    refine Sky.land Zc.steady hfr hf sky' fun h3 fl3 up3 => ?_
    have J3 : Inv X pins σ' H' { s' with heap := h3 } := J.landed nb fl3.1 (up.trans up3) os ag
    obtain ⟨oe3, vs3, he3, hz3, hd3⟩ := fl3.there
    have nfr : a ∉ frs (X.env :: X.outer) := fun hm => by
      obtain ⟨_, o', e', hnf⟩ := fl3.2.2.1.mem hm
      rw [he3] at e'; cases e'
      exact hnf _ hd3
    have nL : a ≠ X.env.locals := fun z => nfr (List.mem_filterMap.mpr ⟨X.env, List.mem_cons_self, by rw [hf, z]⟩)
    have nF : a ∉ X.fs := fun hm => by
      obtain ⟨e, he, q⟩ := List.mem_filterMap.mp hm
      exact nfr (List.mem_filterMap.mpr ⟨e, List.mem_cons_of_mem _ he, q⟩)
    -- the exception is no thing of the state without it
    have nI : sI.heap.get? a = none := by
      cases e : sI.heap.get? a with
      | none => rfl
      | some o =>
        have z := nb a o e (by rw [hs]; exact nfr)
        rw [fl3.2.1] at z; cases z
    have n0 : X.s_0.heap.get? a = none := by
      cases e : X.s_0.heap.get? a with
      | none => rfl
      | some o =>
        obtain ⟨o', z⟩ := J.base.there a o e (by rw [hx]; exact fun z => nomatch z)
        rw [nI] at z; cases z
    have npin : ∀ p ∈ X.pn ++ pins, p.1 ≠ a := fun p hp z => by
      have := (J.pin p hp).1
      rw [z, nI] at this; cases this
    have ncell : ∀ y k, X.env.cells.lookup y = some k → k ≠ a := fun y k e z => by
      obtain ⟨v, q⟩ := J.cell y k e
      obtain ⟨o, q, _⟩ := q
      rw [z, nI] at q; cases q
    have S3 := J3.suite he3 hd3 na nL nF
    refine wpAny_handleBy_cons (codeAny_handlers_test ?_) (by intro q; cases q)
    have LT : PySem.W.Looks (model X.prog X.w) h3 (typeOf (.ref a)) cls := fun A Q E s k q => wpAny_typeOf_ref (k _ _ he3) (by rw [hz3.1]; exact q)
    have LM := PySem.W.exm_one (M := model X.prog X.w) (J3.kIn) LT hb1
    have test : ∀ {Q : Value → Shared → Prop} {E : Value → Shared → Prop}, Q c { s' with heap := h3 } → wpAny (model X.prog X.w) (X.A.mark (some (.ref a))) (eval (.Name x np) X.env) Q E { s' with heap := h3 } := fun {Q E} q => by
      obtain ⟨hg, hdbg, hm | ⟨hm, hv, hnn⟩⟩ := hc
      · exact ld_glob (X := X.suite a ((a, oe3) :: (X.pn ++ pins))) S3 hg hm q hdbg
      · exact ld_blt (X := X.suite a ((a, oe3) :: (X.pn ++ pins))) S3 hg hm hv q hnn hdbg
    refine test (LM.here ?_)
    cases b with
    | true =>
      refine codeAny_handlers_suite_as ?_
      refine HandSPX.lands_againZ fl3 fun h4 fl4 up4 => ?_
      have J4 : Inv X pins σ' H' { s' with heap := h4 } := J.landed nb fl4.1 ((up.trans up3).trans up4) os ag
      obtain ⟨oe4, vs4, he4, hz4, hd4⟩ := fl4.there
      have S4 := J4.suite he4 hd4 na nL nF
      obtain ⟨il, hnx⟩ := hyes rfl a na
      refine store_ok (X := X.suite a ((a, oe4) :: (X.pn ++ pins))) (v := .ref a) S4 hN hi hloc rfl (fun s5 S5 => ?_) (.inr hln)
      refine wpAny_mono ((hsu a oe4 (X.pn ++ pins)).run [] s5 _ H' { nx := fun σ6 H6 => σ6 = (σ'.set i (some (.ref a))).set j (some (.ref a)) ∧ H6 = H', rt := fun _ _ => False, bk := fun _ _ => False, ct := fun _ _ => False } S5
        ⟨.ref a, List.getElem?_set_self il, rfl, rfl⟩) (fun f s6 hsp => ?_) (fun _ _ z => False.elim z)
      cases f with
      | next =>
        obtain ⟨σ6, H6, S6, rfl, rfl⟩ := hsp
        have P6 := (S6.pin (a, oe4) (List.mem_append_left _ List.mem_cons_self)).1
        have M6 : Inv X pins _ (upd H6 a (excO a cls d)) s6 := inv_more (S6.unsuite ok) n0 na (fun _ => exc_ok P6 hz4 ⟨_, hd4⟩) npin nL ncell
        exact gone_ok M6 hN hi hln fun s7 J7 => ⟨_, _, J7, hnx⟩
      | brk => obtain ⟨_, _, _, z⟩ := hsp; exact z.elim
      | cont => obtain ⟨_, _, _, z⟩ := hsp; exact z.elim
      | ret u => obtain ⟨_, _, _, _, _, z⟩ := hsp; exact z.elim
    | false =>
      show wpAny _ X.A (handleBy (.ref a) X.env []) _ _ _
      refine wpAny_handleBy_nil ?_
      obtain ⟨k1, k2, k3, oe, vs, T, oT, ts', he, hz, hd, h1, hr⟩ := id fl3
      unfold PySem.passOn
      refine wpAny_bind (wpAny_field he hd h1 ?_)
      rw [if_neg (show ¬ ((Value.ref T == Value.none) = true) from by simp)]
      have fin : wpAny (model X.prog X.w) X.A (setFlight (.ref a) X.env.frame) (fun _ s4 => wpAny (model X.prog X.w) X.A (throw (.ref a) : Sem PySem.Flow) (SP X pins D) X.xe s4) X.xe { s' with heap := h3 } := by
        rw [hf]
        refine HandSPX.setFlight_upZ fl3 fun h4 hh4 up4 => wpAny_throw (tk _ _ ?_)
        exact ⟨a, B, sI, pins, σ', H', cls, d, rfl, J, nb, (up.trans up3).trans up4, .inr (.inr (by rw [hs]; exact hh4)), na, os, ag, hno rfl⟩
      first
        | exact wpAny_bind (wpAny_pure (wpAny_bind fin))
        | exact wpAny_bind fin
  · cases f with
    | next =>
      obtain ⟨σ', H', J', q⟩ := hsp
      exact wpAny_execs_nil ⟨σ', H', J'.ofTry ok, q⟩
    | brk =>
      obtain ⟨σ', H', J', q⟩ := hsp
      exact ⟨σ', H', J'.ofTry ok, q⟩
    | cont =>
      obtain ⟨σ', H', J', q⟩ := hsp
      exact ⟨σ', H', J'.ofTry ok, q⟩
    | ret u =>
      obtain ⟨v, σ', H', J', r, q⟩ := hsp
      exact ⟨v, σ', H', J'.ofTry ok, r, q⟩
end
/-! ### try: .. except FolkError as e: caught = e -/
def isCaught (ns : List String) (x : Exn) : Bool := ns.contains x.name && (match x.arg with | none => true | some _ => false)
def fTry (ns : List String) (i j : Nat) (p : DSt → Flow) : DSt → Flow := fun s => match p s with
  | .err x s' => if isCaught ns x = true ∧ i < s'.d.length ∧ j < s'.d.length ∧ i ≠ j then .next (putS i .no (putS j (.ob (.exc x)) s')) else .stuck
  | fl => fl
section
variable {K : PySem.W.Frag} {G H G0 H0 : Hp} {s s0 : DSt} {σ σ0 : L2.St}
theorem own_no {i j : Nat} {v : Option V} {a : Addr} (hi : i < s.d.length) : OwnAt (putS i .no s) (σ.set i v) j a → j ≠ i ∧ OwnAt s σ j a := by
  rintro ⟨⟨ds, e⟩, h⟩
  by_cases q : j = i
  · subst q
    unfold putS at e
    simp only [List.getElem?_set_self hi] at e
    cases e
  · unfold putS at e
    simp only [List.getElem?_set_ne (Ne.symm q)] at e
    rw [List.getElem?_set_ne (Ne.symm q)] at h
    exact ⟨q, ⟨ds, e⟩, h⟩
theorem no_ok {i : Nat} {v : Option V} (S : SA K G s σ H) (hi : i < s.d.length) : SA K G (putS i .no s) (σ.set i v) H := by
  refine ⟨by simp [putS, S.len], S.gh, fun j sl h => ?_, fun j k a h1 h2 => S.inj j k a (own_no hi h1).2 (own_no hi h2).2, fun j a h => S.ownG j a (own_no hi h).2, S.pw, fun j a h => S.pne j a (own_no hi h).2⟩
  by_cases q : j = i
  · subst q
    simp only [putS, List.getElem?_set_self hi] at h
    cases h
    trivial
  · simp only [putS, List.getElem?_set_ne (Ne.symm q)] at h
    rw [List.getElem?_set_ne (Ne.symm q)]
    exact S.slot j sl h
theorem no_stp {i : Nat} {v : Option V} (st : Stp G0 s0 σ0 H0 G s σ H) (hi : i < s.d.length) : Stp G0 s0 σ0 H0 G (putS i .no s) (σ.set i v) H := by
  refine ⟨st.ex, st.keep, fun a z => ?_, st.dom, st.pw⟩
  rcases z with ⟨j, z⟩ | z
  · exact st.own a (.inl ⟨j, (own_no hi z).2⟩)
  · exact st.own a (.inr z)
end
theorem set_thrice {σ : L2.St} {i j : Nat} {u v : Option V} (h : i ≠ j) : ((σ.set i u).set j v).set i none = (σ.set j v).set i none := by
  apply List.ext_getElem?
  intro k
  by_cases q : k = i
  · subst q
    simp [List.getElem?_set]
  · simp [List.getElem?_set_ne (Ne.symm q)]
    by_cases q2 : k = j
    · subst q2; simp [List.getElem?_set]
    · simp [List.getElem?_set_ne (Ne.symm q2), List.getElem?_set_ne (Ne.symm q)]
section
variable {X : Cx} {cl : String → Addr} {W : WX} {x n : Str} {C : Addr} {i j : Nat} {body suite : List Stmt} {b₀ : Stmt} {np pos pos' : Pos} {p : DSt → Flow}
end
/-! ### isinstance of what was caught -/
def rIsX (K : PySem.W.Frag) : List V → Hp → VK → Prop := fun xs H Q => ∃ (a D : Addr) (c : V) (cv : Value) (b : Bool), xs = [.ref a, c] ∧ H a = some (excO a (.ref D) none) ∧ ExcC K D ∧ ClsV c cv ∧ PySem.W.kitOne K (.ref D) cv = some b ∧ Q (.bl b) H
structure ExF (K : PySem.W.Frag) (mg : Str → Option Value) (n : String) : Prop where
  g : mg (Str.ofString n) = some (.ref (clOf K n))
  x : PySem.W.excIn K (clOf K n) [.type "ValueError", .type "Exception", .type "BaseException", .type "object"] "ValueError.__new__" = true
  kp : PySem.W.keepIn K (.ref (clOf K n)) = true
  b : PySem.W.subIn K (.ref (clOf K n)) (.type "BaseException") = some true
  ty : PySem.W.typeIn K (.ref (clOf K n)) = some (.type "type")
  c : ExcC K (clOf K n)
  v : PySem.W.subIn K (.ref (clOf K n)) (.type "ValueError") = some true
structure ExFs (K : PySem.W.Frag) (mg : Str → Option Value) (ns : List String) : Prop where
  each : ∀ n ∈ ns, ExF K mg n
  top : ∀ n ∈ ns, PySem.W.exmOne K (.ref (clOf K n)) (.ref (clOf K "FolkError")) = some true
  two : ∀ n ∈ ns, ∀ m ∈ ns, PySem.W.kitOne K (.ref (clOf K n)) (.ref (clOf K m)) = some (n == m)
  gF : mg "FolkError" = some (.ref (clOf K "FolkError"))
def fIsX (ns : List String) (m : String) (f : M R) : M R := bnd f fun r s => match r with
  | .ob (.exc ⟨n, none⟩) => if n ∈ ns ∧ m ∈ ns then .ok (.val (.bool (n == m))) s else .stuck
  | _ => .stuck
def fIsV (ns : List String) (f : M R) : M R := bnd f fun r s => match r with
  | .ob (.exc ⟨n, none⟩) => if n ∈ ns then .ok (.val (.bool true)) s else .stuck
  | _ => .stuck
section
variable {X : Cx} {cl : String → Addr} {W : WX} {e : Expr} {f : M R} {pos : Pos}
theorem kit_V {K : PySem.W.Frag} {D : Addr} (h : PySem.W.subIn K (.ref D) (.type "ValueError") = some true) : PySem.W.kitOne K (.ref D) (.type "ValueError") = some true := by
  unfold PySem.W.kitOne
  rw [if_neg (by intro z; have := beq_iff_eq.mp z; cases this)]
  show (if PySem.W.kitMeta "ValueError" = true then PySem.W.subIn K (.ref D) (.type "ValueError") else none) = _
  rw [if_pos (by decide +kernel)]
  exact h
end
section
variable {s : DSt} {f : M R} {p : DSt → Flow}
@[simp] theorem x_raise {n : String} : fRaise n s = .err ⟨n, none⟩ s := Eq.trans rfl rfl
def kTry (ns : List String) (i j : Nat) (fl : Flow) : Flow := match fl with
  | .err x s' => if isCaught ns x = true ∧ i < s'.d.length ∧ j < s'.d.length ∧ i ≠ j then .next (putS i .no (putS j (.ob (.exc x)) s')) else .stuck
  | fl => fl
@[simp] theorem x_try {ns : List String} {i j : Nat} : fTry ns i j p s = kTry ns i j (p s) := by
  unfold fTry kTry
  cases p s <;> rfl
@[simp] theorem y_kTry_next {ns : List String} {i j : Nat} : kTry ns i j (.next s) = .next s := Eq.trans rfl rfl
@[simp] theorem y_kTry_ret {ns : List String} {i j : Nat} {r : R} : kTry ns i j (.ret r s) = .ret r s := Eq.trans rfl rfl
@[simp] theorem y_kTry_err {ns : List String} {i j : Nat} {n : String} : kTry ns i j (.err ⟨n, none⟩ s) = if n ∈ ns ∧ i < s.d.length ∧ j < s.d.length ∧ i ≠ j then .next (putS i .no (putS j (.ob (.exc ⟨n, none⟩)) s)) else .stuck := by
  show (if isCaught ns ⟨n, none⟩ = true ∧ _ then _ else _) = _
  have : isCaught ns ⟨n, none⟩ = true ↔ n ∈ ns := by simp [isCaught]
  simp only [this]
def kIsX (ns : List String) (m : String) (r : R) (s : DSt) : Res R := match r with
  | .ob (.exc ⟨n, none⟩) => if n ∈ ns ∧ m ∈ ns then .ok (.val (.bool (n == m))) s else .stuck
  | _ => .stuck
@[simp] theorem y_kIsX {ns : List String} {n m : String} : kIsX ns m (.ob (.exc ⟨n, none⟩)) s = if n ∈ ns ∧ m ∈ ns then .ok (.val (.bool (n == m))) s else .stuck := Eq.trans rfl rfl
@[simp] theorem x_isX {ns : List String} {m : String} : fIsX ns m f s = (f s).bind (kIsX ns m) := Eq.trans rfl rfl
def kIsV (ns : List String) (r : R) (s : DSt) : Res R := match r with
  | .ob (.exc ⟨n, none⟩) => if n ∈ ns then .ok (.val (.bool true)) s else .stuck
  | _ => .stuck
@[simp] theorem y_kIsV {ns : List String} {n : String} : kIsV ns (.ob (.exc ⟨n, none⟩)) s = if n ∈ ns then .ok (.val (.bool true)) s else .stuck := Eq.trans rfl rfl
@[simp] theorem x_isV {ns : List String} : fIsV ns f s = (f s).bind (kIsV ns) := Eq.trans rfl rfl
end
/-! ### the facts of the classes, from the written part -/
section
variable {K : PySem.W.Frag} {h : Heap} {mg : Str → Option Value} {n m : String} {C D : Addr}
theorem top_mk (a : PySem.W.nsIn K mainGlobals (Str.ofString n) = some (some (.ref C))) (aF : PySem.W.nsIn K mainGlobals "FolkError" = some (some (.ref D))) (b : PySem.W.subIn K (.ref D) (.type "BaseException") = some true) (hd : PySem.W.hasDictIn K D = true)
    (ty : PySem.W.typeIn K (.ref D) = some (.type "type")) (s : PySem.W.subIn K (.ref C) (.ref D) = some true) : PySem.W.exmOne K (.ref (clOf K n)) (.ref (clOf K "FolkError")) = some true := by
  have eF : clOf K "FolkError" = D := clOf_of aF
  rw [clOf_of a, eF]
  exact PySem.W.exm_ref b hd ty s
theorem two_eq : PySem.W.kitOne K (.ref (clOf K n)) (.ref (clOf K n)) = some (n == n) := by
  unfold PySem.W.kitOne
  rw [if_pos (by simp)]
  simp
theorem mgF_mk (X : PySem.W.Frag.In K h) (G : h.Ns mainGlobals mg) (a : PySem.W.nsIn K mainGlobals "FolkError" = some (some (.ref C))) : mg "FolkError" = some (.ref (clOf K "FolkError")) := by
  have g := PySem.W.mg_of X G a
  have e : clOf K "FolkError" = C := clOf_of a
  subst e
  exact g
end
end DL

/-! DL25: the script, bits, a law without a purse -/
noncomputable section
namespace DL
open PySem L2 PyProof.Rows
open Evl (Ex)
def kScLen (x : R) (s : DSt) : Res R := match x with
  | .ob (.scr ns) => .ok (.val (.int ns.length)) s
  | _ => .stuck
def fScLen (f : M R) : M R := bnd f kScLen
def kScIx (g : M R) (x : R) (s : DSt) : Res R := match x with
  | .ob (.scr ns) => (g s).bind fun y s2 => match look y s2 with
    | some (.int n) => match atI ns n with
      | some z => .ok (.val (.int z)) s2
      | none => .stuck
    | _ => .stuck
  | _ => .stuck
def fScIx (f g : M R) : M R := bnd f (kScIx g)
def andO : PyData → PyData → Option R
  | .int i, .int j => some (.val (.int (Builtin.bitAnd i j)))
  | _, _ => none
section
variable {X : Cx} {cl : String → Addr} {W : WX} {a b x e : Expr} {f g : M R} {pos : Pos}
@[simp] theorem x_scLen {s : DSt} : fScLen f s = (f s).bind kScLen := Eq.trans rfl rfl
@[simp] theorem x_kScLen {ns : List Int} {s : DSt} : kScLen (.ob (.scr ns)) s = .ok (.val (.int ns.length)) s := Eq.trans rfl rfl
@[simp] theorem x_scIx {s : DSt} : fScIx f g s = (f s).bind (kScIx g) := Eq.trans rfl rfl
def kScIx2 (ns : List Int) (y : R) (s2 : DSt) : Res R := match look y s2 with
    | some (.int n) => match atI ns n with
      | some z => .ok (.val (.int z)) s2
      | none => .stuck
    | _ => .stuck
@[simp] theorem x_kScIx {ns : List Int} {s : DSt} : kScIx g (.ob (.scr ns)) s = (g s).bind (kScIx2 ns) := Eq.trans rfl rfl
@[simp] theorem x_kScIx2 {ns : List Int} {i : Int} {s : DSt} : kScIx2 ns (.val (.int i)) s = (match atI ns i with | some z => .ok (.val (.int z)) s | none => .stuck) := Eq.trans rfl rfl
@[simp] theorem x_bitAnd {i j : Int} : andO (.int i) (.int j) = some (.val (.int (Builtin.bitAnd i j))) := Eq.trans rfl rfl
end
/-! ### classes that nothing of the law raises -/
structure ExY (K : PySem.W.Frag) (mg : Str → Option Value) (ns : List String) (m : String) : Prop where
  g : mg (Str.ofString m) = some (.ref (clOf K m))
  two : ∀ n ∈ ns, PySem.W.kitOne K (.ref (clOf K n)) (.ref (clOf K m)) = some false
def kIsY (ns : List String) (m : String) (r : R) (s : DSt) : Res R := match r with
  | .ob (.exc ⟨n, none⟩) => if n ∈ ns then .ok (.val (.bool false)) s else .stuck
  | _ => .stuck
def fIsY (ns : List String) (m : String) (f : M R) : M R := bnd f (kIsY ns m)
@[simp] theorem x_isY {ns : List String} {m : String} {f : M R} {s : DSt} : fIsY ns m f s = (f s).bind (kIsY ns m) := Eq.trans rfl rfl
@[simp] theorem y_kIsY {ns : List String} {n m : String} {s : DSt} : kIsY ns m (.ob (.exc ⟨n, none⟩)) s = if n ∈ ns then .ok (.val (.bool false)) s else .stuck := Eq.trans rfl rfl
theorem two2_mk {K : PySem.W.Frag} {n m : String} {C D : Addr} (a : PySem.W.nsIn K mainGlobals (Str.ofString n) = some (some (.ref C))) (a2 : PySem.W.nsIn K mainGlobals (Str.ofString m) = some (some (.ref D))) (s : PySem.W.subIn K (.ref C) (.ref D) = some false) (s2 : PySem.W.subIn K (.ref C) (.ref C) = some true)
    (hd : PySem.W.hasDictIn K D = true) (ty : PySem.W.typeIn K (.ref D) = some (.type "type")) : PySem.W.kitOne K (.ref (clOf K n)) (.ref (clOf K m)) = some false := by
  rw [clOf_of a, clOf_of a2]
  have ne : C ≠ D := fun z => by subst z; rw [s] at s2; cases s2
  unfold PySem.W.kitOne
  rw [if_neg (by intro z; exact ne (Value.ref.inj (beq_iff_eq.mp z)))]
  obtain ⟨cd, hc, _⟩ := PySem.W.any_some hd
  show (if ((PySem.W.clsIn K D).isSome && PySem.W.typeIn K (.ref D) == some (.type "type")) = true then PySem.W.subIn K (.ref C) (.ref D) else none) = _
  rw [if_pos (by rw [hc, ty] <;> rfl), s]
theorem gY_mk {K : PySem.W.Frag} {h : Heap} {mg : Str → Option Value} {m : String} {C : Addr} (X : PySem.W.Frag.In K h) (G : h.Ns mainGlobals mg) (a : PySem.W.nsIn K mainGlobals (Str.ofString m) = some (some (.ref C))) : mg (Str.ofString m) = some (.ref (clOf K m)) := by
  have g := PySem.W.mg_of X G a
  rw [clOf_of a]
  exact g
def LawOkS (n : Nat) (p : DSt → Flow) : Prop := ∀ ns : List Int, ns.length ≤ 63 → ∃ s', p ⟨Sl.ob (.scr ns) :: List.replicate (n - 1) Sl.no, none⟩ = .ret (.val (.bool true)) s'
section
variable {P : Program} {w : World} {K : PySem.W.Frag} {mg : Str → Option Value} {base : Heap} {cl : String → Addr}
theorem law_ok2 {st : Stmt} {x : Str} {N : List Str} {k : Nat} {p : DSt → Flow} {arg : Str} {f : Addr} {fd : FuncData} (F : Fun K x x st f fd) (S : FnScope N [arg] (defScope st))
    (hb : ∀ (f : Addr) (cdv : Value) (A : Around) (outer : List Env) (s : Shared) (H : Hp) (E : XK), RoomG k (A.deeper (envOfC x (defScope st) s.heap.objs.size f cdv)) →
      DSs (cxOf (L2.CX P w) P w K mg base N x (defScope st) f cdv A outer s H E) cl (fun cls d _ H => E cls d H) (defBody st) p)
    (hp : LawOkS N.length p) : FnG P w K mg base (L2.CX P w) (k + 1) f fd [arg] (spLaw K) := by
  refine okG F S (fun vs H Q E h => ?_) (fun cdv A outer s H vs Q E hr h => ?_)
  · obtain ⟨a, ns, rfl, _⟩ := h; rfl
  · refine ⟨_, hb f cdv A outer s H E hr, ?_⟩
    obtain ⟨a, ns, rfl, hs, hl, tb, q⟩ := h
    obtain ⟨s', hp1⟩ := hp ns hl
    have hst : L2.start N [V.ref a] = some (.ref a) :: List.replicate (N.length - 1) none := rfl
    have noown : ∀ (σ : L2.St) (j : Nat) (c : Addr), ¬ OwnAt ⟨Sl.ob (.scr ns) :: List.replicate (N.length - 1) Sl.no, none⟩ σ j c := by
      rintro σ j c ⟨⟨ds, e⟩, _⟩
      match j with
      | 0 => cases e
      | j + 1 =>
        simp only [List.getElem?_cons_succ, List.getElem?_replicate] at e
        split at e <;> cases e
    -- the script is known from the start: all of the heap is taken as known
    refine ⟨allG none H, ⟨Sl.ob (.scr ns) :: List.replicate (N.length - 1) Sl.no, none⟩, ⟨?_, allG_ex, fun j sl e => ?_, fun j _ c z => (noown _ j c z).elim, fun j c z => (noown _ j c z).elim, ⟨trivial, tb.to (fun _ _ h _ => h) (fun _ _ h => h) fun c z => allG_in (.inr z)⟩, fun j c z => (noown _ j c z).elim⟩, ?_⟩
    · rw [hst]; simp
    · rw [hst]
      match j with
      | 0 =>
        cases e
        refine ⟨.ref a, rfl, a, rfl, ?_⟩
        have hn : ∀ u, H a = some u → (∀ ps, u ≠ .tbl ps) → allG none H a = some u := fun u hu n => by
          rw [allG_out, hu]
          rintro (z | z)
          · exact z
          · obtain ⟨ps, e⟩ := tb.h z
            rw [hu] at e; cases e; exact n _ rfl
        rcases hs with (e | ⟨o, e⟩) | z
        · exact .inl (.inl (hn _ e fun _ => nofun))
        · exact .inl (.inr ⟨o, hn _ e fun _ => nofun⟩)
        · exact .inr z
      | j + 1 =>
        simp only [List.getElem?_cons_succ, List.getElem?_replicate] at e
        split at e
        · cases e; trivial
        · cases e
    · show FOut K cl _ _ _ _ _ (p _) _
      rw [hp1]
      intro v G' σ' H2 st' S' rr
      cases rr
      exact q H2
end
end DL

/-! DL26: bool(x) -/
noncomputable section
namespace DL
open PySem L2 PyProof.Rows
open Evl (Ex)
def boolO : List PyData → Option R
  | [.int i] => some (.val (.bool (i != 0)))
  | [.bool b] => some (.val (.bool b))
  | _ => none
@[simp] theorem x_boolI {a : Int} : boolO [.int a] = some (.val (.bool (a != 0))) := Eq.trans rfl rfl
@[simp] theorem x_boolB {b : Bool} : boolO [.bool b] = some (.val (.bool b)) := Eq.trans rfl rfl
end DL

/-! DL27: a comprehension over an own list that stays own -/
noncomputable section
namespace DL
open PySem L2 PyProof.Rows
open Evl (Ex)
def isOwnL (j : Nat) (ds : List PyData) (s : DSt) : Prop := s.d[j]? = some (.own ds)
instance (j : Nat) (ds : List PyData) (s : DSt) : Decidable (isOwnL j ds s) := Classical.propDecidable _
def loopCO (j : Nat) (all : List PyData) (b : Bd) (ft : M Bool) (fe : M R) (vs : List Nat) : List PyData → List PyData → M (List PyData)
  | [], acc, s => if isOwnL j all s then .ok acc s else .stuck
  | d :: ds, acc, s => if isOwnL j all s then if noOwn vs s.d then match b d { s with d := blank vs s.d } with
      | none => .stuck
      | some s1 => (nerr (ft s1)).bind fun t s2 => if t then (nerr (bnd fe fEsc s2)).bind fun r s3 => match r with
            | .val x => loopCO j all b ft fe vs ds (acc ++ [x]) { s3 with d := putBack vs s.d s3.d }
            | _ => .stuck
          else loopCO j all b ft fe vs ds acc { s2 with d := putBack vs s.d s2.d }
    else .stuck else .stuck
def kNewL : List PyData → M R := fun acc s => .ok (.new acc) s
def kLcO (s : DSt) (j : Nat) (b : Bd) (ft : M Bool) (fe : M R) (vs : List Nat) (ds : List PyData) : Res R := (if leS ds.length then loopCO j ds b ft fe vs ds [] s else .stuck).bind kNewL
def fLcO (j : Nat) (b : Bd) (ft : M Bool) (fe : M R) (vs : List Nat) : M R := fun s => if j ∈ vs then .stuck else match s.d[j]? with
  | some (.own ds) => kLcO s j b ft fe vs ds
  | _ => .stuck
section
variable {X : Cx} {cl : String → Addr} {W : WX} {tg iter : Expr} {pos : Pos}
end
end DL

/-! DL21: sets of ints made of lists: sorted(set(e)) -/
noncomputable section
namespace DL
open PySem L2 PyProof.Rows
open Evl (Ex)
section
variable {P : Program} {w : World} {A : Around} {E : Value → Shared → Prop} {s : Shared}
def emptySet (w : World) : Obj := { cls := .type "set", dict := none, data := .set #[] 0 (.fresh 0 0 (!w.params.followText "set-order")) }
def SetDone (w : World) (h : Heap) (a : Addr) (ns : List Int) (h' : Heap) : Prop := ∃ c, SetR w h' a (fun j => decide (j ∈ ns)) c ∧ c ≤ ns.length ∧ ∀ b o, h.get? b = some o → h'.get? b = some o
def Filled (s : Shared) (w : World) (ns : List Int) (r : Value) (s2 : Shared) : Prop := r = .none ∧ ∃ h' tk, s2 = { s with heap := h', toks := tk } ∧ SetDone w s.heap s.heap.objs.size ns h'
end
/-! ### the rising list of what is in it -/
def ddI : List Int → List Int
  | [] => []
  | a :: l => if a ∈ l then ddI l else a :: ddI l
def setS (ns : List Int) : List Int := sortI (ddI ns)
def kSortSet (r : R) (s : DSt) : Res R := match look r s with
  | some (.list ds) => (match intsD ds with
    | some ns => if ns.length ≤ 60 then .ok (.new ((setS ns).map .int)) s else .stuck
    | none => .stuck)
  | _ => .stuck
@[simp] theorem y_kSortSet (r : R) (s : DSt) : kSortSet r s = (match look r s with | some (.list ds) => (match intsD ds with | some ns => if ns.length ≤ 60 then .ok (.new ((setS ns).map .int)) s else .stuck | none => .stuck) | _ => .stuck) := Eq.trans rfl rfl
def fSortSet (f : M R) : M R := bnd f kSortSet
@[simp] theorem x_sortSet {f : M R} {s : DSt} : fSortSet f s = (f s).bind kSortSet := Eq.trans rfl rfl
section
variable {X : Cx} {cl : String → Addr} {W : WX} {e a b c : Expr} {f g : M R} {pos : Pos}
def tSetL (X : Cx) (te : TE) : TE := fun σ H Q => te σ H fun v H1 => ∃ (l : Addr) (ns : List Int), v = .ref l ∧ SqL X.K H1 l (ns.map V.int) ∧ ns.length ≤ 60 ∧ ∀ p n, H1 p = none → n ≤ ns.length → Q (.ref p) (upd H1 p (SetO X.w p (fun j => decide (j ∈ ns)) n))
end
end DL

/-! DL28: results that are new all through -/
noncomputable section
namespace DL
open PySem L2 PyProof.Rows
open Evl (Ex)
def Dom (H0 H : Hp) : Prop := ∀ a, H0 a ≠ none → H a ≠ none
theorem Dom.none {H0 H : Hp} (d : Dom H0 H) {a : Addr} (h : H a = none) : H0 a = none := Classical.byContradiction fun z => d a z h
def NewIn (H0 : Hp) (ds : List PyData) (xs : List V) : Prop := ∀ (i : Nat) b es, ds[i]? = some (.list es) → xs[i]? = some (.ref b) → H0 b = none
def OneIn (ds : List PyData) (xs : List V) : Prop := ∀ (i j : Nat) b es fs, ds[i]? = some (.list es) → ds[j]? = some (.list fs) → xs[i]? = some (.ref b) → xs[j]? = some (.ref b) → i = j
def DeepL (ds : List PyData) (H0 H : Hp) (v : V) : Prop := ∀ a xs, v = .ref a → H a = some (.lst xs) → H0 a = none ∧ NewIn H0 ds xs
def DeepT (K : PySem.W.Frag) (ds : List PyData) (H0 H : Hp) (v : V) : Prop := ∃ a xs, v = .ref a ∧ H a = some (.tup xs) ∧ H0 a = none ∧ RpAll K H xs ds ∧ NewIn H0 ds xs ∧ OneIn ds xs
def DeepV (K : PySem.W.Frag) (H0 H : Hp) (v : V) : PyData → Prop
  | .list ds => DeepL ds H0 H v
  | .tuple ds => DeepT K ds H0 H v
  | _ => True
def DeepR (K : PySem.W.Frag) (H0 H : Hp) (s : DSt) (v : V) : R → Prop
  | .new ds => DeepL ds H0 H v
  | .slot i => (∀ ds, s.d[i]? = some (.own ds) → DeepL ds H0 H v) ∧ ∀ d, s.d[i]? = some (.val d) → DeepV K H0 H v d
  | .val d => DeepV K H0 H v d
  | _ => True
theorem NewIn.less {H0 H1 : Hp} {ds : List PyData} {xs : List V} (d : Dom H0 H1) (h : NewIn H1 ds xs) : NewIn H0 ds xs := fun i b es e1 e2 => d.none (h i b es e1 e2)
theorem DeepL.less {H0 H1 H : Hp} {ds : List PyData} {v : V} (d : Dom H0 H1) (h : DeepL ds H1 H v) : DeepL ds H0 H v := fun a xs e e2 => ⟨d.none (h a xs e e2).1, (h a xs e e2).2.less d⟩
theorem DeepT.less {K : PySem.W.Frag} {H0 H1 H : Hp} {ds : List PyData} {v : V} (d : Dom H0 H1) (h : DeepT K ds H1 H v) : DeepT K ds H0 H v := by
  obtain ⟨a, xs, e, e2, h0, hr, h1, h2⟩ := h
  exact ⟨a, xs, e, e2, d.none h0, hr, h1.less d, h2⟩
theorem DeepV.less {K : PySem.W.Frag} {H0 H1 H : Hp} {v : V} {x : PyData} (d : Dom H0 H1) (h : DeepV K H1 H v x) : DeepV K H0 H v x := by
  cases x <;> first | trivial | exact DeepL.less d h | exact DeepT.less d h
theorem DeepR.less {K : PySem.W.Frag} {H0 H1 H : Hp} {s : DSt} {v : V} {r : R} (d : Dom H0 H1) (h : DeepR K H1 H s v r) : DeepR K H0 H s v r := by
  cases r with
  | new ds => exact DeepL.less d h
  | slot i => exact ⟨fun ds e => (h.1 ds e).less d, fun x e => (h.2 x e).less d⟩
  | raw v => trivial
  | ob o => trivial
  | val x => exact DeepV.less d h
structure Of (H0 : Hp) (s : DSt) (σ : L2.St) (H : Hp) : Prop where
  dom : Dom H0 H
  own : ∀ i a, OwnAt s σ i a → H0 a = none
def Gf (H0 G : Hp) : Prop := ∀ a, H0 a ≠ none → G a = none
section
variable {K : PySem.W.Frag} {H0 G H G' H' G4 H4 Gm : Hp} {s s' s4 : DSt} {σ σ' σ4 : L2.St} {v : V} {r : R}
theorem Of.step (j : Of H0 s σ H) (st : Stp G s σ H G' s' σ' H') (S' : SA K G' s' σ' H') : Of H0 s' σ' H' := by
  refine ⟨fun a h => st.dom a (j.dom a h), fun i a z => ?_⟩
  rcases st.own a (.inl ⟨i, z⟩) with q | q
  · rcases q with ⟨k, q⟩ | q
    · exact j.own k a q
    · exact absurd (st.pw a q) (S'.pne i a z)
  · exact j.dom.none q
theorem Gf.step (g : Gf H0 G) (j : Of H0 s σ H) (st : Stp G s σ H G' s' σ' H') (S' : SA K G' s' σ' H') : Gf H0 G' := by
  intro a ha
  obtain ⟨o, e⟩ := Option.ne_none_iff_exists'.mp (j.dom a ha)
  by_cases z : Own s σ a
  · rcases z with ⟨i, z⟩ | z
    · exact absurd (j.own i a z) ha
    · exact G_pown S'.pw (st.pw a z)
  · rw [(st.keep a o e z).2]; exact g a ha
theorem Gf.none (g : Gf H0 G) {a : Addr} {o : HO} (h : G a = some o) : H0 a = none := Classical.byContradiction fun z => by rw [g a z] at h; cases h
def mergeG (G4 G : Hp) : Hp := fun x => match G4 x with
  | some o => some o
  | none => G x
end
/-! ### judgements -/
section
variable (K : PySem.W.Frag) (cl : String → Addr) (W : WX)
def spFd (F : List R → Pw → FRes) : Sp := fun vs H Q E => ∃ (G : Hp) (rs : List R) (w : Pw), Ex G H ∧ Paired (AR K G) vs rs ∧ PwOk G w H ∧ match F rs w with
  | .ok r w' => ∀ v G' H', FStp G w H G' w' H' → PwOk G' w' H' → FRel K H G' w' H' v r → DeepR K H H' ⟨[], none⟩ v r → Q v H'
  | .err x w' => ∀ cls d G' H', FStp G w H G' w' H' → PwOk G' w' H' → XRel K cl x cls d G' → E cls d H'
  | .stuck => False
def FOutd (H0 G : Hp) (s : DSt) (σ : L2.St) (H : Hp) (fl : Flow) (D : Ends) : Prop := match fl with
  | .next s' => ∀ G' σ' H', Stp G s σ H G' s' σ' H' → SA K G' s' σ' H' → D.nx σ' H'
  | .brk s' => ∀ G' σ' H', Stp G s σ H G' s' σ' H' → SA K G' s' σ' H' → D.bk σ' H'
  | .cnt s' => ∀ G' σ' H', Stp G s σ H G' s' σ' H' → SA K G' s' σ' H' → D.ct σ' H'
  | .ret r s' => ∀ v G' σ' H', Stp G s σ H G' s' σ' H' → SA K G' s' σ' H' → RRel K H G' s' σ' H' v r → DeepR K H0 H' s' v r → D.rt v H'
  | .err x s' => ∀ cls d G' σ' H', Stp G s σ H G' s' σ' H' → SA K G' s' σ' H' → XRel K cl x cls d G' → W cls d σ' H'
  | .stuck => False
def tSd (H0 : Hp) (f : DSt → Flow) : TS := fun D σ H => ∃ G s, SA K G s σ H ∧ Of H0 s σ H ∧ FOutd K cl W H0 G s σ H (f s) D
def tDd (H0 : Hp) (f : M R) : TE := fun σ H Q => ∃ G s, SA K G s σ H ∧ Dom H0 H ∧ Out K cl W G s σ H (f s) fun r G' s' H' => ∀ v, RRel K H G' s' σ H' v r → DeepR K H0 H' s' v r → Q v H'
end
def Cald (P : Program) (w : World) (K : PySem.W.Frag) (mg : Str → Option Value) (base : Heap) (cl : String → Addr) (x : Str) (k : Nat) (ps : List Str) (F : List R → Pw → FRes) : Prop :=
  ∃ (f : Addr) (fd : FuncData), FnG P w K mg base (L2.CX P w) k f fd ps (spFd K cl F) ∧ mg x = some (.ref f) ∧ PySem.W.keepIn K (.ref f) = true ∧ Binds K fd ps []
section
variable {K : PySem.W.Frag} {cl : String → Addr} {W : WX} {H0 G H G' H' : Hp} {s s' : DSt} {σ σ' : L2.St}
def fseqn (f g : DSt → Flow) : DSt → Flow := fun s => match f s with
  | .next s' => g s'
  | .err x s' => .err x s'
  | _ => .stuck
end
/-! ### rules -/
section
variable {X : Cx} {cl : String → Addr} {W : WX} {H0 : Hp} {e a b c : Expr} {es : List Expr} {f g : M R} {fs : M (List R)} {pos : Pos} {st : Stmt} {rest : List Stmt} {p q : DSt → Flow}
end
end DL

/-! DL29: a list of lists that grows from nothing old -/
noncomputable section
namespace DL
open PySem L2 PyProof.Rows
open Evl (Ex)
def oneS (n i : Nat) (x : Sl) : List Sl := (List.replicate n Sl.no).set i x
def fGrow (i : Nat) (f1 f2 : M R) (bd : Bd) (p q : DSt → Flow) : DSt → Flow := fun s => match f1 s with
  | .ok (.new d1) s1 => if i < s1.d.length ∧ d1.all atomD = true then (match f2 (putS i .no s1) with
    | .ok (.new d2) s2 => if d2.all atomD = true then (match loopF bd p d2 ⟨oneS s2.d.length i (.own [.list d1]), s2.w⟩ with
      | .next s3 => (match q s3 with
        | .ret (.new ds) s4 => .ret (.new ds) s4
        | _ => .stuck)
      | _ => .stuck) else .stuck
    | _ => .stuck) else .stuck
  | _ => .stuck
section
variable {K : PySem.W.Frag} {G H : Hp} {s : DSt} {σ : L2.St}
end
section
variable {X : Cx} {cl : String → Addr} {W : WX} {H0 : Hp} {e1 e2 tg : Expr} {body rest : List Stmt} {f1 f2 : M R} {pos pos' pl pf : Pos} {p q : DSt → Flow}
end
end DL

/-! DL30: a list of own lists, at a slot -/
noncomputable section
namespace DL
open PySem L2 PyProof.Rows
open Evl (Ex)
def E0 : Hp := fun _ => none
theorem rp0_ref {K : PySem.W.Frag} {b : Addr} {d : PyData} (h : Rp K E0 (.ref b) d) (a : atomD d = true) : False := by
  cases d <;> simp [atomD] at a <;> cases h
theorem rps0_ref {K : PySem.W.Frag} {vs : List V} {es : List PyData} {m : Nat} {b : Addr} (h : RpAll K E0 vs es) (a : es.all atomD = true) (e : vs[m]? = some (.ref b)) : False := by
  obtain ⟨d, e2, rr⟩ := dps_get h e
  exact rp0_ref rr (List.all_eq_true.mp a d (List.mem_of_getElem? e2))
def nestP (a : Addr) (xs : List V) (ds : List PyData) (x : Addr) : Prop := x = a ∨ ∃ (i : Nat) (es : List PyData), ds[i]? = some (.list es) ∧ xs[i]? = some (.ref x)
def nvw (ds : List PyData) (L : Bool) : PyData := if L = true then .list ds else .tuple ds
def nho (xs : List V) (L : Bool) : HO := if L = true then .lst xs else .tup xs
structure NA (K : PySem.W.Frag) (j : Nat) (Gb : Hp) (sb : DSt) (σb : L2.St) (Hb G : Hp) (s : DSt) (σ : L2.St) (H : Hp) (a : Addr) (xs : List V) (ds : List PyData) (L : Bool) : Prop where
  sa : SA K G (putS j .no s) σ H
  stp : Stp Gb sb σb Hb G (putS j .no s) σ H
  jl : j < s.d.length
  ej : σ[j]? = some (some (.ref a))
  one : OneIn ds xs
  len : xs.length = ds.length
  el : ∀ (i : Nat) es, ds[i]? = some (.list es) → es.all atomD = true ∧ ∃ b vs, xs[i]? = some (.ref b) ∧ H b = some (.lst vs) ∧ RpAll K E0 vs es ∧ G b = none ∧ ¬ Own (putS j .no s) σ b ∧ Hb b = none
  at' : ∀ (i : Nat) d, ds[i]? = some d → (∀ es, d ≠ .list es) → atomD d = true ∧ ∃ x, xs[i]? = some x ∧ Rp K E0 x d
  out : s.d[j]? = some (.val (nvw ds L)) ∧ H a = some (nho xs L) ∧ G a = none ∧ ¬ Own (putS j .no s) σ a ∧ Hb a = none
section
variable {K : PySem.W.Frag} {j : Nat} {Gb Hb G H G' H' : Hp} {sb s s' : DSt} {σb σ : L2.St} {a : Addr} {xs : List V} {ds : List PyData} {L : Bool}
theorem NA.sj (N : NA K j Gb sb σb Hb G s σ H a xs ds L) : s.d[j]? = some (.val (nvw ds L)) := N.out.1
theorem NA.ne (N : NA K j Gb sb σb Hb G s σ H a xs ds L) {x : Addr} (h : nestP a xs ds x) : G x = none ∧ ¬ Own (putS j .no s) σ x ∧ Hb x = none ∧ ∃ o, H x = some o := by
  rcases h with rfl | ⟨i, es, e1, e2⟩
  · obtain ⟨_, h1, h2, h3, h4⟩ := N.out
    exact ⟨h2, h3, h4, _, h1⟩
  · obtain ⟨_, b, vs, e3, h1, _, h2, h3, h4⟩ := N.el i es e1
    rw [e2] at e3
    cases e3
    exact ⟨h2, h3, h4, _, h1⟩
def viewG (a : Addr) (xs : List V) (ds : List PyData) (G H : Hp) : Hp := fun x => @ite _ (nestP a xs ds x) (Classical.propDecidable _) (H x) (G x)
def flatS : List Sl → Prop
  | [] => True
  | .own ds :: r => ds.all atomD = true ∧ flatS r
  | _ :: r => flatS r
instance instDecFlat (d : List Sl) : Decidable (flatS d) := Classical.propDecidable _
def sameV (s s' : DSt) : Prop := s'.d = s.d ∧ flatS s.d
instance (s s' : DSt) : Decidable (sameV s s') := Classical.propDecidable _
def thawG (a : Addr) (xs : List V) (ds : List PyData) (G : Hp) : Hp := fun x => @ite _ (nestP a xs ds x) (Classical.propDecidable _) none (G x)
theorem NA.app (N : NA K j Gb sb σb Hb G s σ H a xs ds L) {m : Nat} {es : List PyData} {d : PyData} {b : Addr} {vs : List V} {v : V} (e1 : ds[m]? = some (.list es)) (e2 : xs[m]? = some (.ref b)) (hb : H b = some (.lst vs)) (hd : Rp K E0 v d) (ad : atomD d = true) :
    NA K j Gb sb σb Hb G (putS j (.val (nvw (ds.set m (.list (es ++ [d]))) L)) s) σ (upd H b (.lst (vs ++ [v]))) a xs (ds.set m (.list (es ++ [d]))) L := by
  have hP : nestP a xs ds b := .inr ⟨m, es, e1, e2⟩
  obtain ⟨gb, nb, hbb, _⟩ := N.ne hP
  have pp : ∀ x, putS j .no (putS j x s) = putS j .no s := fun x => by simp [putS]
  have ml : m < ds.length := (List.getElem?_eq_some_iff.mp e1).1
  obtain ⟨at0, b0, vs0, e3, hb0, rr0, _⟩ := N.el m es e1
  rw [e2] at e3
  cases e3
  rw [hb] at hb0
  cases hb0
  have hi : ∀ (i : Nat) d', (ds.set m (PyData.list (es ++ [d])))[i]? = some d' → (i = m ∧ d' = PyData.list (es ++ [d])) ∨ (i ≠ m ∧ ds[i]? = some d') := fun i d' h => by
    by_cases q : i = m
    · subst q
      rw [List.getElem?_set_self ml] at h
      cases h; exact .inl ⟨rfl, rfl⟩
    · rw [List.getElem?_set_ne (Ne.symm q)] at h
      exact .inr ⟨q, h⟩
  refine ⟨by rw [pp]; exact sa_write N.sa gb nb (fun φ q => by rw [hb] at q; cases q), ⟨N.stp.ex, fun x o h1 h2 => ?_, by rw [pp]; exact N.stp.own, fun x h => ?_, N.stp.pw⟩, by simpa [putS] using N.jl, N.ej, fun i k c es1 es2 h1 h2 h3 h4 => ?_, by rw [N.len]; simp, fun i es1 h => ?_, fun i d1 h n => ?_, ?_⟩
  · obtain ⟨h3, h4⟩ := N.stp.keep x o h1 h2
    exact ⟨by rw [upd_ne fun z => by subst z; rw [hbb] at h1; cases h1]; exact h3, h4⟩
  · by_cases z : x = b
    · subst z; rw [upd_same]; simp
    · rw [upd_ne z]; exact N.stp.dom x h
  · have g : ∀ i es1, (ds.set m (PyData.list (es ++ [d])))[i]? = some (PyData.list es1) → ∃ es', ds[i]? = some (PyData.list es') := fun i es1 h => by
      rcases hi i _ h with ⟨rfl, _⟩ | ⟨_, h⟩
      · exact ⟨_, e1⟩
      · exact ⟨_, h⟩
    obtain ⟨_, g1⟩ := g i es1 h1
    obtain ⟨_, g2⟩ := g k es2 h2
    exact N.one i k c _ _ g1 g2 h3 h4
  · rcases hi i _ h with ⟨rfl, e⟩ | ⟨q, h⟩
    · cases e
      refine ⟨by simp only [List.all_append, at0, Bool.true_and]; simp [ad], b, vs ++ [v], e2, upd_same, dps_app rr0 (.cons hd .nil), gb, by rw [pp]; exact nb, hbb⟩
    · obtain ⟨at1, c, ws, e4, h1, h2, h3, h4, h5⟩ := N.el i es1 h
      refine ⟨at1, c, ws, e4, ?_, h2, h3, by rw [pp]; exact h4, h5⟩
      rw [upd_ne fun z => q (by subst z; exact N.one i m c _ _ h e1 e4 e2)]
      exact h1
  · rcases hi i _ h with ⟨rfl, e⟩ | ⟨q, h⟩
    · subst e; exact absurd rfl (n _)
    · exact N.at' i d1 h n
  · obtain ⟨_, h1, h2, h3, h4⟩ := N.out
    have hset : ∀ x, (putS j x s).d[j]? = some x := fun x => by simp only [putS]; exact List.getElem?_set_self N.jl
    refine ⟨by rw [hset], ?_, h2, by rw [pp]; exact h3, h4⟩
    rw [upd_ne fun z => by
      subst z
      rw [hb] at h1
      unfold nho at h1
      split at h1
      · cases h1
        exact rps0_ref rr0 at0 e2
      · cases h1]
    exact h1
theorem sa_no {i : Nat} (S : SA K G s σ H) : SA K G (putS i .no s) σ H ∧ ∀ x, Own (putS i .no s) σ x → Own s σ x := by
  have ho : ∀ k x, OwnAt (putS i .no s) σ k x → OwnAt s σ k x := by
    rintro k x ⟨⟨es, e⟩, e2⟩
    by_cases q : k = i
    · subst q
      simp only [putS, List.getElem?_set] at e
      split at e
      · split at e <;> cases e
      · rename_i z; simp at z
    · simp only [putS, List.getElem?_set_ne (Ne.symm q)] at e
      exact ⟨⟨es, e⟩, e2⟩
  refine ⟨⟨by simp [putS, S.len], S.gh, fun k sl h => ?_, fun k l x h1 h2 => S.inj k l x (ho k x h1) (ho l x h2), fun k x h => S.ownG k x (ho k x h), S.pw, fun k x h => S.pne k x (ho k x h)⟩, fun x z => z.imp (fun ⟨k, z⟩ => ⟨k, ho k x z⟩) id⟩
  by_cases q : k = i
  · subst q
    simp only [putS, List.getElem?_set] at h
    split at h
    · split at h
      · cases h; trivial
      · cases h
    · rename_i z; simp at z
  · simp only [putS, List.getElem?_set_ne (Ne.symm q)] at h
    exact S.slot k sl h
theorem NA.blank (N : NA K j Gb sb σb Hb G s σ H a xs ds L) {i : Nat} (ij : i ≠ j) : NA K j Gb sb σb Hb G (putS i .no s) σ H a xs ds L := by
  have pp : putS j .no (putS i .no s) = putS i .no (putS j .no s) := by simp only [putS]; rw [List.set_comm _ _ ij]
  obtain ⟨S, so⟩ := sa_no (i := i) N.sa
  have hj : (putS i .no s).d[j]? = s.d[j]? := by simp only [putS]; exact List.getElem?_set_ne ij
  refine ⟨by rw [pp]; exact S, by rw [pp]; exact ⟨N.stp.ex, N.stp.keep, fun x z => N.stp.own x (so x z), N.stp.dom, N.stp.pw⟩, by simpa [putS] using N.jl, N.ej, N.one, N.len, fun k es h => ?_, N.at', ?_⟩
  · obtain ⟨at1, b, vs, e3, h1, h2, h3, h4, h5⟩ := N.el k es h
    exact ⟨at1, b, vs, e3, h1, h2, h3, fun z => h4 (by rw [pp] at z; exact so b z), h5⟩
  · have ho := N.out
    rw [hj]
    exact ⟨ho.1, ho.2.1, ho.2.2.1, fun z => ho.2.2.2.1 (by rw [pp] at z; exact so a z), ho.2.2.2.2⟩
end
end DL

/-! DL31: statements while a slot holds a list of own lists -/
noncomputable section
namespace DL
open PySem L2 PyProof.Rows
open Evl (Ex)
def NAx (K : PySem.W.Frag) (j : Nat) (Gb : Hp) (sb : DSt) (σb : L2.St) (Hb G : Hp) (s : DSt) (σ : L2.St) (H : Hp) : Prop := ∃ a xs ds L, NA K j Gb sb σb Hb G s σ H a xs ds L
def NOut (K : PySem.W.Frag) (j : Nat) (Gb : Hp) (sb : DSt) (σb : L2.St) (Hb : Hp) (fl : Flow) (D : Ends) : Prop := match fl with
  | .next s' => ∀ G' σ' H', NAx K j Gb sb σb Hb G' s' σ' H' → D.nx σ' H'
  | .brk s' => ∀ G' σ' H', NAx K j Gb sb σb Hb G' s' σ' H' → D.bk σ' H'
  | .cnt s' => ∀ G' σ' H', NAx K j Gb sb σb Hb G' s' σ' H' → D.ct σ' H'
  | .ret (.val d) s' => atomD d = true ∧ ∀ v G' σ' H', Stp Gb sb σb Hb G' s' σ' H' → SA K G' s' σ' H' → Rp K E0 v d → D.rt v H'
  | _ => False
def tN (K : PySem.W.Frag) (j : Nat) (f : DSt → Flow) : TS := fun D σ H => ∃ Gb sb σb Hb G s, NAx K j Gb sb σb Hb G s σ H ∧ NOut K j Gb sb σb Hb (f s) D
section
variable {K : PySem.W.Frag} {j : Nat} {Gb Hb G H G' H' : Hp} {sb s s' : DSt} {σb σ : L2.St} {a : Addr} {xs : List V} {ds : List PyData} {L : Bool}
end
section
variable {X : Cx} {cl : String → Addr} {W : WX} {e a b c x y : Expr} {es : List Expr} {f g : M R} {fs : M (List R)} {pos : Pos} {st : Stmt} {rest body : List Stmt} {p q : DSt → Flow} {j : Nat}
def vwIf (t : M Bool) (p : DSt → Flow) : DSt → Flow := fun s => match t s with
  | .ok b s1 => if b then (match p s1 with
    | .ret (.val d) s2 => if atomD d = true then .ret (.val d) s2 else .stuck
    | _ => .stuck) else if sameV s s1 then .next s1 else .stuck
  | _ => .stuck
def nForR (i : Nat) (fs : M (List R)) (p : DSt → Flow) : DSt → Flow := fun s => match fs s with
  | .ok [r] s1 => (match look r s1 with
    | some (.int m) => if inB m ∧ sameV s s1 then loopF (bName i) p (rangeD 0 m.toNat) s1 else .stuck
    | _ => .stuck)
  | _ => .stuck
def nApp (j k : Nat) (d : PyData) : DSt → Flow := fun s => match s.d[j]?, s.d[k]? with
  | some (.val (.list ds)), some (.val (.int n)) => (match ixN ds.length n with
    | some m => (match ds[m]? with
      | some (.list es) => if ltS es.length ∧ flatS s.d then .next (putS j (.val (.list (ds.set m (.list (es ++ [d]))))) s) else .stuck
      | _ => .stuck)
    | none => .stuck)
  | _, _ => .stuck
def appAll (d : PyData) : List PyData → Option (List PyData)
  | [] => some []
  | .list es :: r => if ltS es.length then (appAll d r).map (PyData.list (es ++ [d]) :: ·) else none
  | _ :: _ => none
def nForA (j i : Nat) (d : PyData) : DSt → Flow := fun s => match s.d[j]? with
  | some (.val (.list ds)) => if i < s.d.length ∧ flatS (putS i .no s).d then (match appAll d ds with
    | some ds' => .next (putS j (.val (.list ds')) (putS i .no s))
    | none => .stuck) else .stuck
  | _ => .stuck
end
end DL

/-! DL32: the block that begins with x = a call that tells new lists -/
noncomputable section
namespace DL
open PySem L2 PyProof.Rows
open Evl (Ex)
def frz1 (i : Nat) (s : DSt) : DSt := match s.d[i]? with
  | some (.own ds) => { s with d := s.d.set i (.val (.list ds)) }
  | _ => s
def frzS : List Nat → DSt → DSt
  | [], s => s
  | i :: r, s => frzS r (frz1 i s)
def flatE : PyData → Prop
  | .list es => es.all atomD = true
  | d => atomD d = true
def nestOk (ds : List PyData) : Prop := ∀ d ∈ ds, flatE d
def nestOk1 (ds : List PyData) : Prop := nestOk ds ∧ ds.Nodup
def okP : Sl → Sl → Prop
  | _, .no => True
  | .own es, y => es.all atomD = true ∧ (y = .own es ∨ y = .val (.list es))
  | x, y => y = x
def okL : List Sl → List Sl → Prop
  | [], [] => True
  | x :: r, y :: q => okP x y ∧ okL r q
  | _, _ => False
instance (ds : List PyData) : Decidable (nestOk ds) := Classical.propDecidable _
instance (ds : List PyData) : Decidable (nestOk1 ds) := Classical.propDecidable _
instance (x y : List Sl) : Decidable (okL x y) := Classical.propDecidable _
def nEnd (j : Nat) (fl : Flow) : Flow := match fl with
  | .next s => .next (putS j .no s)
  | .ret (.val d) s => if atomD d = true then .ret (.val d) s else .stuck
  | _ => .stuck
def sameW (s0 s1 : DSt) : Prop := s1.w = s0.w
instance (s0 s1 : DSt) : Decidable (sameW s0 s1) := Classical.propDecidable _
def kNB (j : Nat) (g : DSt → Flow) (s0 : DSt) : Res R → Flow
  | .ok (.new ds) s1 => if nestOk1 ds ∧ okL (putS j .no s0).d (putS j .no s1).d ∧ j < s1.d.length then nEnd j (g (putS j (.val (.list ds)) s1)) else .stuck
  | .ok (.val (.tuple ds)) s1 => if nestOk ds ∧ sameW s0 s1 ∧ okL (putS j .no s0).d (putS j .no s1).d ∧ j < s1.d.length then nEnd j (g (putS j (.val (.tuple ds)) s1)) else .stuck
  | _ => .stuck
def fNB (j : Nat) (js : List Nat) (f : M R) (g : DSt → Flow) : DSt → Flow := fun s => kNB j g (frzS js s) (f (frzS js s))
section
variable {K : PySem.W.Frag} {G H : Hp} {s : DSt} {σ : L2.St}
end
section
variable {X : Cx} {cl : String → Addr} {W : WX} {e : Expr} {f : M R} {pos pos' : Pos} {rest : List Stmt} {g : DSt → Flow} {j : Nat} {x : Str}
end
end DL

/-! DL45: a loop each turn of which begins with a list of numbers that is then drawn from -/
noncomputable section
namespace DL
open PySem L2 PyProof.Rows
open Evl (Ex)
def kScCut (k : Nat) (x : R) (s : DSt) : Res R := match x with
  | .ob (.scr ns) => .ok (.new ((ns.take k).map .int)) s
  | _ => .stuck
def fScCut (k : Nat) (f : M R) : M R := bnd f (kScCut k)
@[simp] theorem x_scCut {k : Nat} {f : M R} {s : DSt} : fScCut k f s = (f s).bind (kScCut k) := Eq.trans rfl rfl
@[simp] theorem y_kScCut {k : Nat} {ns : List Int} {s : DSt} : kScCut k (.ob (.scr ns)) s = .ok (.new ((ns.take k).map .int)) s := Eq.trans rfl rfl
section
variable {X : Cx} {cl : String → Addr} {W : WX} {a : Expr} {f : M R} {pos : Pos}
theorem d_scCut {k j : Nat} {p1 p2 : Pos} (ha : DE X cl W a f) : DE X cl W (.Subscript a (.Slice none (some (.Constant (.int (k : Int)) j p1)) none p2) pos) (fScCut k f) := by
  refine pe_imp (pe_slice sl_list ha po_none (po_some pe_int)) fun σ H Q ⟨G, s, S, q⟩ => ?_
  refine ⟨G, s, S, out_mono (out_bind q) fun r G1 s1 H1 st1 S1 k1 v rr => ?_⟩
  unfold kScCut at k1
  split at k1
  · rename_i ns
    obtain ⟨p, rfl, hl⟩ := rr
    refine ⟨k, rfl, p, _, rfl, Evl.ex_l S1.gh hl, fun p0 hp0 => ?_⟩
    have ec : cutV (ns.map V.int) none (some (k : Int)) = (ns.take k).map V.int := by
      unfold cutV
      have e1 : HT.sIx (ns.map V.int).length 0 none = 0 := rfl
      rw [e1, List.map_take]
      have e2 : HT.sIx (ns.map V.int).length (ns.map V.int).length (some (k : Int)) = min k (ns.map V.int).length := by
        unfold HT.sIx
        simp
        try omega
      rw [e2]
      simp only [List.drop_zero, Nat.sub_zero]
      rw [List.take_eq_take_iff]
      omega
    rw [ec]
    obtain ⟨st2, S2, r2⟩ := new_list (H0 := H) S1 hp0 (rp_ints (ns.take k)) st1.dom
    exact k1 G1 _ st2 S2 _ r2
  · exact k1.elim
end
/-! ### -/
def clearZ : List Sl → Prop
  | [] => True
  | .own _ :: _ => False
  | _ :: r => clearZ r
def keepZ : List Sl → List Sl → Prop
  | [], [] => True
  | x :: a, y :: b => (x = .no ∨ y = x) ∧ keepZ a b
  | _, _ => False
theorem clearZ_get : ∀ {d : List Sl} {i : Nat} {ds : List PyData}, clearZ d → d[i]? ≠ some (.own ds)
  | [], _, _, _, e => by simp at e
  | x :: r, 0, ds, h, e => by
    simp at e
    subst e
    exact h
  | x :: r, i + 1, ds, h, e => by
    have h' : clearZ r := by cases x <;> first | exact h | exact h.elim
    exact clearZ_get h' (by simpa using e)
theorem keepZ_get : ∀ {a b : List Sl} {i : Nat} {x : Sl}, keepZ a b → a[i]? = some x → x = .no ∨ b[i]? = some x
  | [], _, i, x, _, e => by simp at e
  | _ :: _, [], _, _, h, _ => h.elim
  | u :: a, v :: b, 0, x, h, e => by
    simp at e
    subst e
    rcases h.1 with q | q
    · exact .inl q
    · exact .inr (by simp [q])
  | u :: a, v :: b, i + 1, x, h, e => by
    have := keepZ_get (i := i) h.2 (by simpa using e)
    simpa using this
theorem keepZ_len : ∀ {a b : List Sl}, keepZ a b → b.length = a.length
  | [], [], _ => rfl
  | [], _ :: _, h => h.elim
  | _ :: _, [], h => h.elim
  | _ :: a, _ :: b, h => by simp [keepZ_len h.2]
def goodW (b : Bd) (k : Nat) (f : M R) (q : DSt → Flow) (ds : List PyData) (s1 : DSt) : Prop := s1.w = none ∧ clearZ s1.d ∧ ∀ d ∈ ds, ∃ (s4 s5 : DSt) (cells : List Int), b d s1 = some s4 ∧ f s4 = .ok (.new (cells.map .int)) s5 ∧ s5.w = none ∧ k < s5.d.length ∧
  ∀ pa : Addr, ∃ s6, q ⟨s5.d.set k (.raw (.ref pa)), some (pa, pa, cells, 0)⟩ = .next s6 ∧ keepZ s1.d s6.d
instance instDecGoodW (b : Bd) (k : Nat) (f : M R) (q : DSt → Flow) (ds : List PyData) (s1 : DSt) : Decidable (goodW b k f q ds s1) := Classical.propDecidable _
def kForW (b : Bd) (k : Nat) (f : M R) (q : DSt → Flow) (ds : List PyData) (s1 : DSt) : Flow := if goodW b k f q ds s1 then .next s1 else .stuck
def fForW (fi : M (List PyData)) (b : Bd) (k : Nat) (f : M R) (q : DSt → Flow) : DSt → Flow := fun s => onRes (fi s) (kForW b k f q)
@[simp] theorem x_forW {fi : M (List PyData)} {b : Bd} {k : Nat} {f : M R} {q : DSt → Flow} {s : DSt} : fForW fi b k f q s = onRes (fi s) (kForW b k f q) := Eq.trans rfl rfl
theorem y_kForW {b : Bd} {k : Nat} {f : M R} {q : DSt → Flow} {ds : List PyData} {s : DSt} (h : goodW b k f q ds s) : kForW b k f q ds s = .next s := if_pos h
section
variable {X : Cx} {cl : String → Addr} {W : WX} {e tg iter : Expr} {f : M R} {fi : M (List PyData)} {pos pos2 : Pos} {q : DSt → Flow}
theorem noOwnZ {s : DSt} {σ : L2.St} {x : Addr} (h : clearZ s.d) (hw : s.w = none) (z : Own s σ x) : TOwn x := by
  rcases z with ⟨i, ⟨ds, e⟩, _⟩ | z
  · exact (clearZ_get h e).elim
  · rw [hw] at z; exact z.elim False.elim id
theorem noOwnY {s : DSt} {σ : L2.St} {j : Nat} {x : Addr} (h : clearZ s.d) : ¬ OwnAt s σ j x := fun ⟨⟨ds, e⟩, _⟩ => clearZ_get h e
theorem s_forW {rest : List Stmt} {gg : TG} {bd : Bd} {js : List Nat} {k : Nat} {y : Str} {py : Pos} (hp : PassesOwn (model X.prog X.w) X.A X.env X.xe) (hc : X.calm = true) (hi : DI X cl W tg iter fi) (hg : PG X tg gg) (ho : GOk X.K gg bd js)
    (hN : X.N.Nodup) (hk : X.N[k]? = some y) (hy : Loc X.env.scope y) (he : DE X cl W e f) (hr : DSs X cl W rest q)
    (hsw : swapsWith e (some (.Name y py)) pos2.line X.env = pure false := by rfl) (hf : X.fn y = true ∨ X.env.scope.names.lookup y = some .local := by first | exact .inl rfl | exact .inr rfl | assumption)
    (hs : ∀ x, foldedSetIterable iter X.env x = pure x := by intro _; rfl) : DS X cl W (.For tg iter (.Assign [.Name y py] e pos2 :: rest) [] pos) (fForW fi bd k f q) := by
  refine ps_imp (ps_for hp hc hi hg (pss_cons (ps_set hN hk hy he hsw hf) hr) hs) fun D σ H ⟨G, s, S, h⟩ => ⟨G, s, S, out_mono (fout_res h) fun ds G1 s1 H1 st1 S1 kk J hJ => ?_⟩
  have kk := fout_shift st1 kk
  unfold kForW at kk
  split at kk
  rotate_left
  · exact kk.elim
  rename_i hgood
  obtain ⟨w1, cz, good⟩ := hgood
  refine ⟨fun i m σ2 H2 => ∃ G2, SA X.K G2 s1 σ2 H2 ∧ Ex G1 G2 ∧ m = ds.length - i ∧ i ≤ ds.length ∧ Stp G1 s1 σ H1 G2 s1 σ2 H2, ⟨ds.length, G1, S1, Ex.refl G1, by simp, Nat.zero_le _, Stp.refl⟩, ?_⟩
  rintro i m σ2 H2 ⟨G2, S2, ex2, rfl, hi, st2⟩
  obtain ⟨j1, j2⟩ := hJ G2 s1 σ2 H2 ex2 S2 i
  by_cases hl : i < ds.length
  · obtain ⟨go, yl⟩ := j1 ds[i] (List.getElem?_eq_getElem hl)
    obtain ⟨s4, s5, cells, eb, ef, w5, k5, hq⟩ := good ds[i] (List.getElem_mem hl)
    refine .inr ⟨go, fun σ3 H3 => ∃ G3, SA X.K G3 s1 σ3 H3 ∧ Ex G1 G3 ∧ Stp G1 s1 σ H1 G3 s1 σ3 H3, fun σ3 H3 ⟨G3, S3, ex3, st3⟩ => ⟨ds.length - (i + 1), by omega, G3, S3, ex3, rfl, hl, st3⟩, fun x H3 y => ?_⟩
    obtain ⟨G3, st3, S3, rp⟩ := yl x H3 y
    refine ho x ds[i] G3 s1 σ2 H3 s4 _ S3 rp eb fun σ4 l4 n4 m4 w4 st4 S4 => ?_
    refine ⟨G3, s4, S4, ?_⟩
    rw [ef]
    intro G5 H5 st5 S5 v rr
    obtain ⟨pa, xs, rfl, ha, hd, hga, h0, hn⟩ := rr
    have exs : xs = cells.map V.int := ints_rp hd (by simp)
    subst exs
    have Sp := put_ok S5 k5 (x := .raw (.ref pa)) (v := .ref pa) rfl (fun _ _ z => nomatch z)
    have stp : Stp G3 s4 σ4 H3 G5 (putS k (.raw (.ref pa)) s5) (σ4.set k (some (.ref pa))) H5 := put_stp S5 st5 k5 (fun _ _ z => nomatch z)
    have w4n : s4.w = none := w4.trans w1
    have ow : ∀ j c, OwnAt (putS k (.raw (.ref pa)) s5) (σ4.set k (some (.ref pa))) j c → c ≠ pa := fun j c z q => by
      subst q
      rcases own_put k5 S5.len z with ⟨_, ⟨_, e⟩, _⟩ | ⟨_, z⟩
      · cases e
      · exact hn (.inl ⟨j, z⟩)
    have S6 : SA X.K G5 ⟨s5.d.set k (.raw (.ref pa)), some (pa, pa, cells, 0)⟩ (σ4.set k (some (.ref pa))) H5 := ⟨Sp.len, Sp.gh, Sp.slot, Sp.inj, Sp.ownG, ⟨⟨trivial, by rw [pwA_eq]; exact ha, ha, hga, hga⟩, Sp.pw.2⟩, fun j c z q => q.elim (fun q => ow j c z (q.elim id id)) fun q => Sp.pne j c z (.inr q)⟩
    have st6 : Stp G3 s4 σ4 H3 G5 ⟨s5.d.set k (.raw (.ref pa)), some (pa, pa, cells, 0)⟩ (σ4.set k (some (.ref pa))) H5 := ⟨stp.ex, stp.keep, fun c z => by
      rcases z with z | z
      · exact stp.own c (.inl z)
      · rcases z with z | z
        · have : c = pa := z.elim id id
          subst this
          exact .inr h0
        · exact .inl (.inr (.inr z)), stp.dom, fun c z => by rw [w4n] at z; exact z.elim False.elim fun z => .inr z⟩
    obtain ⟨s6, eq, kz⟩ := hq pa
    refine ⟨G5, _, S6, ?_⟩
    rw [eq]
    intro G7 σ7 H7 st7 S7
    have stA : Stp G2 s1 σ2 H2 G7 s6 σ7 H7 := (st3.trans st4).trans (st6.trans st7)
    have stR : Stp G2 s1 σ2 H2 G7 s1 σ7 H7 := ⟨stA.ex, stA.keep, fun c z => .inl (.inr (.inr (noOwnZ cz w1 z))), stA.dom, fun c z => by rw [w1] at z; exact .inr (z.elim False.elim id)⟩
    refine ⟨G7, ⟨by rw [← S7.len]; exact (keepZ_len kz).symm, S7.gh, fun j sl e => ?_, fun j _ c z => (noOwnY cz z).elim, fun j c z => (noOwnY cz z).elim, by rw [w1]; exact ⟨trivial, S7.pw.2⟩, fun j c z => (noOwnY cz z).elim⟩, ex2.trans stR.ex, st2.trans stR⟩
    rcases keepZ_get kz e with q | q
    · subst q; trivial
    · exact S7.slot j sl q
  · have e : i = ds.length := by omega
    subst e
    exact .inl ⟨j2 (Nat.le_refl _), kk G2 σ2 H2 st2 S2⟩
end
end DL

/-! DL46: texts cut up -/
noncomputable section
namespace DL
open PySem L2 PyProof.Rows
open Evl (Ex)
def kSplitB (a : Str) (y : R) (s : DSt) : Res R := match look y s with
  | some (.str b) => if (b.length == 0) = false ∧ leS (a.length + 2) then .ok (.new ((Txt.split a b).map .str)) s else .stuck
  | _ => .stuck
def kSplitA (g : M R) (x : R) (s : DSt) : Res R := match look x s with
  | some (.str a) => (g s).bind (kSplitB a)
  | _ => .stuck
def fSplit (f g : M R) : M R := bnd f (kSplitA g)
@[simp] theorem x_split {f g : M R} {s : DSt} : fSplit f g s = (f s).bind (kSplitA g) := Eq.trans rfl rfl
@[simp] theorem y_kSplitA {g : M R} {a : Str} {s : DSt} : kSplitA g (.val (.str a)) s = (g s).bind (kSplitB a) := Eq.trans rfl rfl
@[simp] theorem y_kSplitB {a b : Str} {s : DSt} : kSplitB a (.val (.str b)) s = if (b.length == 0) = false ∧ leS (a.length + 2) then .ok (.new ((Txt.split a b).map .str)) s else .stuck := Eq.trans rfl rfl
theorem rp_strs {K : PySem.W.Frag} {G : Hp} : ∀ ws : List Str, RpAll K G (ws.map V.str) (ws.map .str)
  | [] => .nil
  | a :: ws => .cons (.str a) (rp_strs ws)
section
variable {X : Cx} {cl : String → Addr} {W : WX} {a b : Expr} {f g : M R} {pos : Pos}
theorem d_split {apos : Pos} (ha : DE X cl W a f) (hb : DE X cl W b g) (hs : starEach [b] X.env = [(false, eval b X.env)] := by rfl) (hbase : attributeBase a "split" X.env (eval a X.env) = eval a X.env := by rfl) (hline : (apos.endLine == pos.line) = true := by rfl) :
    DE X cl W (.Call (.Attribute a "split" apos) [b] [] pos) (fSplit f g) := by
  refine pe_imp (pe_split ha hb hs hbase hline) fun σ H Q ⟨G, s, S, q⟩ => ?_
  refine ⟨G, s, S, out_mono (out_bind q) fun r G1 s1 H1 st1 S1 k1 v rr => ?_⟩
  unfold kSplitA at k1
  split at k1
  · rename_i x e1
    obtain rfl := dq_str (look_q S1 rr e1)
    refine ⟨⟨x, rfl⟩, G1, s1, S1, out_mono (out_bind k1) fun r2 G2 s2 H2 st2 S2 k2 u ru => ?_⟩
    unfold kSplitB at k2
    split at k2
    · rename_i y e2
      obtain rfl := dq_str (look_q S2 ru e2)
      split at k2
      · rename_i hh
        refine ⟨x, y, rfl, rfl, hh.1, hh.2, fun p0 hp0 => ?_⟩
        obtain ⟨st3, S3, r3⟩ := new_list (H0 := H) S2 hp0 (rp_strs (Txt.split x y)) (st1.trans st2).dom
        exact k2 G2 _ st3 S3 _ r3
      · exact k2.elim
    · exact k2.elim
  · exact k1.elim
end
end DL

/-! DL47: sorted(set(e)), e a list of twos of numbers -/
noncomputable section
namespace DL
open PySem L2 PyProof.Rows
open Evl (Ex)
def prT (p : Int × Int) : PyData := .tuple [.int p.1, .int p.2]
def pairD : PyData → Option (Int × Int)
  | .tuple [.int a, .int b] => some (a, b)
  | _ => none
def pairsD : List PyData → Option (List (Int × Int))
  | [] => some []
  | d :: r => match pairD d, pairsD r with
    | some p, some ps => some (p :: ps)
    | _, _ => none
@[simp] theorem pairD_prT (p : Int × Int) : pairD (prT p) = some p := rfl
/-! ### rising twos -/
def ltP (p q : Int × Int) : Prop := p.1 < q.1 ∨ (p.1 = q.1 ∧ p.2 < q.2)
instance (p q : Int × Int) : Decidable (ltP p q) := by unfold ltP; infer_instance
def insP (p : Int × Int) : List (Int × Int) → List (Int × Int)
  | [] => [p]
  | q :: r => if p = q then q :: r else if ltP p q then p :: q :: r else q :: insP p r
def setP : List (Int × Int) → List (Int × Int)
  | [] => []
  | p :: r => insP p (setP r)
/-! ### -/
def nnP (ps : List (Int × Int)) : Prop := ∀ p ∈ ps, 0 ≤ p.1 ∧ 0 ≤ p.2
instance instDecNnP (ps : List (Int × Int)) : Decidable (nnP ps) := Classical.propDecidable _
def kSortSetP (r : R) (s : DSt) : Res R := match look r s with
  | some (.list ds) => (match pairsD ds with
    | some ps => if ps.length < 64 ∧ nnP ps then .ok (.new ((setP ps).map prT)) s else .stuck
    | none => .stuck)
  | _ => .stuck
@[simp] theorem y_kSortSetP (r : R) (s : DSt) : kSortSetP r s = (match look r s with | some (.list ds) => (match pairsD ds with | some ps => if ps.length < 64 ∧ nnP ps then .ok (.new ((setP ps).map prT)) s else .stuck | none => .stuck) | _ => .stuck) := Eq.trans rfl rfl
def fSortSetP (f : M R) : M R := bnd f kSortSetP
@[simp] theorem x_sortSetP {f : M R} {s : DSt} : fSortSetP f s = (f s).bind kSortSetP := Eq.trans rfl rfl
section
variable {X : Cx} {cl : String → Addr} {W : WX} {e a b c : Expr} {f g : M R} {pos : Pos}
end
end DL

/-! DL48: range downwards; x[i], x[j] = a, b of an own list -/
noncomputable section
namespace DL
open PySem L2 PyProof.Rows
open Evl (Ex)
def downD (lo : Int) (n : Nat) : List PyData := (List.range n).map fun (k : Nat) => PyData.int (lo - (k : Int))
def kRng3 (rs : List R) (s : DSt) : Res (List PyData) := match rs with
  | [r, r2, r3] => match look r s, look r2 s, look r3 s with
    | some (.int i), some (.int j), some (.int c) => if c = -1 ∧ inB i ∧ inB j then .ok (downD i (i - j).toNat) s else .stuck
    | _, _, _ => .stuck
  | _ => .stuck
def fRng3 (fs : M (List R)) : M (List PyData) := bnd fs kRng3
@[simp] theorem x_rng3 {fs : M (List R)} {s : DSt} : fRng3 fs s = (fs s).bind kRng3 := Eq.trans rfl rfl
@[simp] theorem y_kRng3 (rs : List R) (s : DSt) : kRng3 rs s = (match rs with
  | [r, r2, r3] => match look r s, look r2 s, look r3 s with
    | some (.int i), some (.int j), some (.int c) => if c = -1 ∧ inB i ∧ inB j then .ok (downD i (i - j).toNat) s else .stuck
    | _, _, _ => .stuck
  | _ => .stuck) := Eq.trans rfl rfl
section
variable {X : Cx} {cl : String → Addr} {W : WX} {tg a b c e : Expr} {f g1 g2 : M R} {fs : M (List R)} {pos : Pos}
def kSwap3 (i : Nat) (d2 : PyData) (r : R) (s : DSt) : Flow := match look r s, s.d[i]? with
  | some (.int n), some (.own ds) => (match ixN ds.length n with
    | some j => .next (putS i (.own (ds.set j d2)) s)
    | none => .stuck)
  | _, _ => .stuck
def kSwap2 (i : Nat) (d1 d2 : PyData) (g2 : M R) (r : R) (s : DSt) : Flow := match look r s, s.d[i]? with
  | some (.int n), some (.own ds) => (match ixN ds.length n with
    | some j => onRes (g2 (putS i (.own (ds.set j d1)) s)) (kSwap3 i d2)
    | none => .stuck)
  | _, _ => .stuck
def kSwap1 (i : Nat) (g1 g2 : M R) (r : R) (s : DSt) : Flow := match r with
  | .val (.tuple [d1, d2]) => onRes (g1 s) (kSwap2 i d1 d2 g2)
  | _ => .stuck
def fSwap (i : Nat) (f g1 g2 : M R) : DSt → Flow := fun s => if isOwn i s = true then onRes (f s) (kSwap1 i g1 g2) else .stuck
@[simp] theorem x_swap {i : Nat} {f g1 g2 : M R} {s : DSt} : fSwap i f g1 g2 s = if isOwn i s = true then onRes (f s) (kSwap1 i g1 g2) else .stuck := Eq.trans rfl rfl
@[simp] theorem y_kSwap1 {i : Nat} {d1 d2 : PyData} {g1 g2 : M R} {s : DSt} : kSwap1 i g1 g2 (.val (.tuple [d1, d2])) s = onRes (g1 s) (kSwap2 i d1 d2 g2) := Eq.trans rfl rfl
@[simp] theorem y_kSwap2 (i : Nat) (d1 d2 : PyData) (g2 : M R) (r : R) (s : DSt) : kSwap2 i d1 d2 g2 r s = (match look r s, s.d[i]? with
  | some (.int n), some (.own ds) => (match ixN ds.length n with
    | some j => onRes (g2 (putS i (.own (ds.set j d1)) s)) (kSwap3 i d2)
    | none => .stuck)
  | _, _ => .stuck) := Eq.trans rfl rfl
@[simp] theorem y_kSwap3 (i : Nat) (d2 : PyData) (r : R) (s : DSt) : kSwap3 i d2 r s = (match look r s, s.d[i]? with
  | some (.int n), some (.own ds) => (match ixN ds.length n with
    | some j => .next (putS i (.own (ds.set j d2)) s)
    | none => .stuck)
  | _, _ => .stuck) := Eq.trans rfl rfl
end
end DL

/-! DL66: NAME.get(word, number), NAME a dict of the top: words to numbers -/
noncomputable section
namespace DL
open PySem L2 PyProof.Rows
open Evl (Ex)
def GDict (K : PySem.W.Frag) (w : World) (mg : Str → Option Value) (x : Str) (kvs : List (Str × Int)) : Prop :=
  ∃ (a : Addr) (es : Array DictEntry) (n : Nat), mg x = some (.ref a) ∧ K.lookup a = some ⟨.type "dict", none, .dict es n, #[]⟩ ∧ PySem.W.KeysLit w.params es.toList ∧ (a == sysModules) = false ∧
    ∀ k : Str, (∀ i, kvs.lookup k = some i → ∃ t, PySem.W.nsIn K a k = some (some (.int i t))) ∧ (kvs.lookup k = none → PySem.W.nsIn K a k = some none)
theorem find_not {P : Params} {x : Str} : ∀ {l : List DictEntry} {ks : List Str}, l.map He.keyOf = He.keysIn P ks → x ∉ ks → l.find? (·.key.isStr x) = none ∧ l.any (·.refKey) = false
  | [], _, _, _ => ⟨rfl, rfl⟩
  | e :: r, [], h, _ => by cases h
  | e :: r, k :: ks, h, hx => by
    have h1 : He.keyOf e :: r.map He.keyOf = some (k, PyData.keyHash P k) :: He.keysIn P ks := h
    injection h1 with h2 h3
    obtain ⟨g1, g2⟩ := find_not (x := x) h3 fun z => hx (List.mem_cons_of_mem _ z)
    unfold He.keyOf at h2
    split at h2
    · rename_i y t q
      have h4 := Option.some.inj h2
      obtain ⟨h5, _⟩ := Prod.mk.inj h4
      have ne : y ≠ x := fun z => hx (by rw [← z, h5]; exact List.mem_cons_self)
      have f1 : (e.key.isStr x) = false := by
        rw [q]
        show (y == x) = false
        simpa using ne
      refine ⟨by rw [List.find?_cons, f1]; exact g1, ?_⟩
      rw [List.any_cons, g2, Bool.or_false]
      unfold DictEntry.refKey
      rw [q]
    · cases h2
def fGlGet (kvs : List (Str × Int)) (fs : M (List R)) : M R := bnd fs fun rs s => match rs with
  | [r, r2] => (match look r s, look r2 s with
    | some (.str k), some (.int d) => .ok (.val (.int ((kvs.lookup k).getD d))) s
    | _, _ => .stuck)
  | _ => .stuck
section
variable {X : Cx} {cl : String → Addr} {W : WX} {e f : Expr} {fs : M (List R)}
end
def kGlGet (kvs : List (Str × Int)) (rs : List R) (s : DSt) : Res R := match rs with
  | [r, r2] => (match look r s, look r2 s with
    | some (.str k), some (.int d) => .ok (.val (.int ((kvs.lookup k).getD d))) s
    | _, _ => .stuck)
  | _ => .stuck
@[simp] theorem y_kGlGet (kvs : List (Str × Int)) (r r2 : R) (s : DSt) : kGlGet kvs [r, r2] s = (match look r s, look r2 s with
    | some (.str k), some (.int d) => .ok (.val (.int ((kvs.lookup k).getD d))) s
    | _, _ => .stuck) := Eq.trans rfl rfl
@[simp] theorem x_glGet {kvs : List (Str × Int)} {fs : M (List R)} {s : DSt} : fGlGet kvs fs s = (fs s).bind (kGlGet kvs) := Eq.trans rfl rfl
end DL

/-! DL71: B.__init__(self, ..), B an own class over ValueError without an __init__ of its own -/
noncomputable section
namespace DL
open PySem L2 PyProof.Rows PySem.Calls
section
variable {X : Cx} {e : Expr} {es : List Expr} {ta : TA} {p1 p2 pos : Pos} {x : Str} {CF : Addr} {mc : Value}
theorem pe_clsinit {pl : Sem Bool} (hg : Gl X x) (hm : X.mg x = some (.ref CF)) (r : ClX.CRead X.K CF mc) (vV : PySem.W.findCls X.K (.ref CF) mc "__init__" = some (.val (.builtin "ValueError.__init__"))) (ha : PA X (e :: es) ta)
    (hdb : (x == ("__debug__" : Str)) = false := by decide)
    (hc : eval (.Call (.Attribute (.Name x p1) "__init__" p2) (e :: es) [] pos) X.env = (do
      let ov ← eval (.Name x p1) X.env
      standAt p2.atName
      let (f, first) ← holding [ov] (getMethod ov "__init__" pl)
      callWith pos f first (backTo pos (starEach (e :: es) X.env)) (backToKw pos (keywordEach [] X.env))) := by rfl)
    (he : starEach (e :: es) X.env = (false, eval e X.env) :: starEach es X.env := by rfl) (hpl : (backTo pos (starEach es X.env)).any (·.1) = false := by rfl) :
    PE X (.Call (.Attribute (.Name x p1) "__init__" p2) (e :: es) [] pos) (tVeI X.K ta) := by
  refine ⟨fun pins s σ H Q I h => ?_⟩
  refine PySem.W.methodCall_KW (ld_glob I hg hm ?_ hdb) hc
  refine PySem.W.method_cls I.kIn r.ga (PySem.W.cls_value I.kIn r.rd vV (by decide +kernel) ?_)
  show wpAny _ _ (callWith pos (Value.builtin "ValueError.__init__") [] (backTo pos (starEach (e :: es) X.env)) []) _ _ _
  refine PyProof.Rows.callWith_method1 (thn (ha.run pos pins _ σ H _ (I.tok _) h) fun us s1 ⟨vs, H1, I1, r1, a, C, ws, ev, hl, T, ea, q⟩ => ?_) he hpl
  subst ev
  cases r1 with
  | @cons _ u0 _ ur ra rw' =>
    obtain rfl : u0 = Value.ref a := ra
    have hlen : ur.length ≤ sizeLine := by
      rw [← Paired.length rw', sizeLine_eq]
      omega
    exact oinit_ok T I1 ea hlen fun s' J => ⟨.non, H1, J, rfl, q⟩
end
end DL

/-! DL72: errors that bear a number: raised, caught, looked at; a list of them made by hand -/
noncomputable section
namespace DL
open PySem L2 PySem.Spec PyProof.Rows
open Evl (Ex)
/-! ### the facts of the classes -/
structure ExG (K : PySem.W.Frag) (mg : Str → Option Value) (n : String) : Prop where
  g : mg (Str.ofString n) = some (.ref (clOf K n))
  kp : PySem.W.keepIn K (.ref (clOf K n)) = true
  b : PySem.W.subIn K (.ref (clOf K n)) (.type "BaseException") = some true
  ty : PySem.W.typeIn K (.ref (clOf K n)) = some (.type "type")
  c : ExcC K (clOf K n)
  v : PySem.W.subIn K (.ref (clOf K n)) (.type "ValueError") = some true
  x : n ≠ "NoFall" → n ≠ "NoText" → PySem.W.excIn K (clOf K n) [.type "ValueError", .type "Exception", .type "BaseException", .type "object"] "ValueError.__new__" = true
structure ExGs (K : PySem.W.Frag) (mg : Str → Option Value) (ns : List String) : Prop where
  each : ∀ n ∈ ns, ExG K mg n
  top : ∀ n ∈ ns, PySem.W.exmOne K (.ref (clOf K n)) (.ref (clOf K "FolkError")) = some true
  two : ∀ n ∈ ns, ∀ m ∈ ns, PySem.W.kitOne K (.ref (clOf K n)) (.ref (clOf K m)) = some (n == m)
  gF : mg "FolkError" = some (.ref (clOf K "FolkError"))
structure OxF (K : PySem.W.Frag) (mg : Str → Option Value) (n : String) (q : Str) (st : Stmt) : Prop where
  T : OexC K (clOf K n)
  no : PySem.W.findIn K (.ref (clOf K n)) (fieldOf n) = some none
  g : mg (Str.ofString n) = some (.ref (clOf K n))
  fn : ∃ f fd, PySem.W.findIn K (.ref (clOf K n)) "__init__" = some (some (.ref f)) ∧ PySem.W.typeIn K (.ref f) = some (.type "function") ∧ L2.Fun K "__init__" q st f fd ∧ Binds K fd ["self", fieldOf n] []
  bs : ∃ CF, mg "FolkError" = some (.ref CF) ∧ ClX.CRead K CF (.type "type") ∧ PySem.W.findCls K (.ref CF) (.type "type") "__init__" = some (.val (.builtin "ValueError.__init__"))
def inSt (s : Stmt) : Stmt := match s with
  | .ClassDef _ _ _ (d :: _) _ _ _ _ _ _ _ => d
  | s => s
def spInit (K : PySem.W.Frag) (C : Addr) (fld : Str) : Sp := fun vs H Q _ => ∃ (a : Addr) (v : V), vs = [.ref a, v] ∧ H a = some (exo a C none) ∧ ∀ d, H d = none → d ≠ a → Q .non (upd (upd H d (exd d [(fld, v)])) a (exo a C (some d)))
structure InitOk (P : Program) (w : World) (K : PySem.W.Frag) (mg : Str → Option Value) (base : Heap) (n : String) : Prop where
  T : OexC K (clOf K n)
  g : mg (Str.ofString n) = some (.ref (clOf K n))
  ex : ∃ f fd, PySem.W.findIn K (.ref (clOf K n)) "__init__" = some (some (.ref f)) ∧ PySem.W.typeIn K (.ref f) = some (.type "function") ∧ FnOk P w K mg base CX0 1 f fd ["self", fieldOf n] (spInit K (clOf K n) (fieldOf n)) ∧ Binds K fd ["self", fieldOf n] []
def tInit (K : PySem.W.Frag) (m : Str) (fld : Str) : TS := tSeq (tDrop (tVeI K (tCons (tVar 0) (tCons (tC (.str m)) tNil)))) (tOst K fld (tVar 0) (tVar 1))
theorem init_ok {P : Program} {w : World} {K : PySem.W.Frag} {mg : Str → Option Value} {base : Heap} {n : String} {q : Str} {st : Stmt} {m : Str} (O : OxF K mg n q st) (S : FnScope ["self", fieldOf n] ["self", fieldOf n] (defScope st))
    (hb : ∀ (f : Addr) (cdv : Value) (A : Around) (outer : List Env) (s : Shared) (H : Hp) (E : XK), PSs (cxOf CX0 P w K mg base ["self", fieldOf n] q (defScope st) f cdv A outer s H E).nox (defBody st) (tInit K m (fieldOf n))) : InitOk P w K mg base n := by
  obtain ⟨f, fd, h1, h2, F, B⟩ := O.fn
  refine ⟨O.T, O.g, f, fd, h1, h2, F.ok (k := 0) S (fun vs H Q E h => ?_) (fun cdv A outer s H vs Q E hr h => ⟨_, hb f cdv A outer s H E, ?_⟩), B⟩
  · obtain ⟨a, v, rfl, _⟩ := h; rfl
  · obtain ⟨a, v, rfl, ea, k⟩ := h
    exact ⟨.ref a, rfl, a, clOf K n, [.str m], rfl, by simp, O.T, ea, v, rfl, .ref a, rfl, a, clOf K n, rfl, O.T, O.no, .inl ⟨ea, fun dx h1 h2 => k dx h1 h2⟩⟩
/-! ### such an error is made -/
def tMkA (C : Addr) (fld : Str) (te : TE) : L2.St → Hp → XK → Prop := fun σ H Q => te σ H fun v H1 => ∀ d, H1 d = none → Q (.ref C) (some d) (upd H1 d (.xd [(fld, v)]))
theorem upd_del_same {H : Hp} {a d : Addr} {o1 o2 o3 : HO} {o4 : HO} (na : H a = none) (ne : d ≠ a) : upd (del (upd (upd (upd H a o1) d o2) a o3) a) d o4 = upd H d o4 := by
  funext b
  by_cases hd : b = d
  · subst hd; rw [upd_same, upd_same]
  · rw [upd_ne hd, upd_ne hd]
    by_cases ha : b = a
    · subst ha; rw [del_same, na]
    · rw [L2.del_ne ha, upd_ne ha, upd_ne hd, upd_ne ha]
theorem mkO_reads {K : PySem.W.Frag} {cl : String → Addr} {W : WX} {C : Addr} {fld : Str} {f : M R} {σ : L2.St} {H : Hp} {Q : XK} (q : tD K cl W f σ H fun v H1 => ∀ d, H1 d = none → Q (.ref C) (some d) (upd H1 d (.xd [(fld, v)]))) :
    tMkO C (spInit K C fld) [] (tCons (tD K cl W f) tNil) σ H Q := by
  obtain ⟨G, s, S, q⟩ := q
  refine ⟨G, s, S, out_mono q fun r G1 s1 H1 st S1 k v rr => ?_⟩
  refine ⟨by simp, fun a na => ⟨a, v, rfl, upd_same, fun d hd ne => ?_⟩⟩
  have hd1 : H1 d = none := by rw [upd_ne ne] at hd; exact hd
  refine ⟨rfl, d, [(fld, v)], upd_same, ?_, hd1, ?_⟩
  · rw [upd_ne ne, upd_same]
  · rw [upd_del_same na ne]
    exact k v rr d hd1
section
variable {X : Cx} {cl : String → Addr} {W : WX} {x : Str} {n : String} {e iter : Expr} {es : List Expr} {f : M R} {fs : M (List R)} {p pos pos' : Pos}
theorem pmk_arg {te : TE} (O : InitOk X.prog X.w X.K X.mg X.base n) (hr : Room 2 X.A) (hg : Gl X x) (hx : x = Str.ofString n) (ha : PE X e te) (hdb : (x == ("__debug__" : Str)) = false := by decide)
    (he : starEach [e] X.env = (false, eval e X.env) :: starEach [] X.env := by rfl) (hpl : (backTo pos (starEach [] X.env)).any (·.1) = false := by rfl) :
    PMk X (.Call (.Name x p) [e] [] pos) (tMkO (clOf X.K n) (spInit X.K (clOf X.K n) (fieldOf n)) [] (tCons te tNil)) := by
  obtain ⟨f, fd, h1, h2, F, B⟩ := O.ex
  exact pmk_oex (k := 1) (p := p) (ds := []) (dvs := []) O.T h1 h2 F hr B .nil (fun _ _ _ _ _ _ _ z => z.elim) hg (by rw [hx]; exact O.g) (pa_cons ha pa_nil he) hdb he hpl
/-! ### raise C(e) -/
def fRaiseA (n : String) (f : M R) : DSt → Flow := fun s => match f s with
  | .ok (.val (.int i)) s' => .err ⟨n, some (.int i)⟩ s'
  | .err x s' => .err x s'
  | _ => .stuck
theorem s_raiseA (O : InitOk X.prog X.w X.K X.mg X.base n) (hcl : cl = clOf X.K) (hr : Room 2 X.A) (hc : X.calm = true) (tk : Takes X W) (hg : Gl X x) (hx : x = Str.ofString n) (ha : DE X cl W e f) (hdb : (x == ("__debug__" : Str)) = false := by decide)
    (he : starEach [e] X.env = (false, eval e X.env) :: starEach [] X.env := by rfl) (hpl : (backTo pos' (starEach [] X.env)).any (·.1) = false := by rfl) :
    DS X cl W (.Raise (some (.Call (.Name x p) [e] [] pos')) none pos) (fRaiseA n f) := by
  refine ps_imp (ps_raise hc tk (pmk_arg O hr hg hx ha hdb he hpl)) fun D σ H ⟨G, s, S, h⟩ => mkO_reads ?_
  refine ⟨G, s, S, ?_⟩
  unfold fRaiseA at h
  cases ef : f s with
  | err y s1 => rw [ef] at h; exact fun cls d G' H' st S' xr => h cls d G' σ H' st S' xr
  | stuck => rw [ef] at h; exact h
  | ok r s1 =>
    rw [ef] at h
    intro G1 H1 st1 S1 v rr d hd
    cases r with
    | raw u => exact h.elim
    | ob o => exact h.elim
    | slot o => exact h.elim
    | new o => exact h.elim
    | val y =>
      cases y with
      | int i =>
        cases (show Rp X.K G1 v (.int i) from rr)
        obtain ⟨st2, S2⟩ := new_known (.xd [(fieldOf n, .int i)]) S1 hd
        exact h _ _ _ _ _ (st1.trans st2) S2 ⟨by rw [hcl], d, .int i, rfl, upd_same, .int i⟩
      | none => exact h.elim
      | bool b => exact h.elim
      | str b => exact h.elim
      | list b => exact h.elim
      | tuple b => exact h.elim
      | dict b => exact h.elim
end
/-! ### try: .. except FolkError as e: caught = e, where the error may bear a number -/
def isCaughtA (ns : List String) (x : Exn) : Bool := ns.contains x.name && (match x.arg with | none => true | some (.int _) => true | some _ => false)
def fTryA (ns : List String) (i j : Nat) (p : DSt → Flow) : DSt → Flow := fun s => match p s with
  | .err x s' => if isCaughtA ns x = true ∧ i < s'.d.length ∧ j < s'.d.length ∧ i ≠ j then .next (putS i .no (putS j (.ob (.exc x)) s')) else .stuck
  | fl => fl
section
variable {X : Cx} {cl : String → Addr} {W : WX} {x n : Str} {C : Addr} {i j : Nat} {body suite : List Stmt} {b₀ : Stmt} {np pos pos' : Pos} {p : DSt → Flow}
theorem try_outA {K : PySem.W.Frag} {ns : List String} {G H : Hp} {s : DSt} {σ : L2.St} {D : Ends} (hcl : cl = clOf K) (hex : ∀ m ∈ ns, PySem.W.exmOne K (.ref (clOf K m)) (.ref C) = some true) (h : FOut K cl W G s σ H (fTryA ns i j p s) D) : FOut K cl (wKeep K (.ref C) i j W D) G s σ H (p s) D := by
  unfold fTryA at h
  cases e : p s with
  | next s' => rw [e] at h; exact h
  | brk s' => rw [e] at h; exact h
  | cnt s' => rw [e] at h; exact h
  | ret r s' => rw [e] at h; exact h
  | stuck => rw [e] at h; exact h
  | err z s' =>
    rw [e] at h
    dsimp only at h
    split at h
    · rename_i hh
      obtain ⟨h1, hi, hj, hij⟩ := hh
      obtain ⟨zn, za⟩ := z
      unfold isCaughtA at h1
      simp only [Bool.and_eq_true, List.contains_iff_mem] at h1
      obtain ⟨hm, ha0⟩ := h1
      intro cls d G' σ' H' st S' xr
      obtain ⟨ec, ed⟩ := xr
      subst ec hcl
      refine ⟨true, hex zn hm, fun _ a ha => ⟨by rw [← S'.len]; exact hi, ?_⟩, fun q => nomatch q⟩
      rw [set_thrice hij]
      obtain ⟨st2, S2⟩ := new_known (excO a (.ref (clOf K zn)) d) S' ha
      have ob : ObRel K (upd G' a (excO a (.ref (clOf K zn)) d)) (.ref a) (.exc ⟨zn, za⟩) := ⟨a, d, rfl, upd_same, exa_mono st2.ex ed⟩
      have S3 := put_ok (x := .ob (.exc ⟨zn, za⟩)) (v := .ref a) S2 hj ⟨_, rfl, ob⟩ (fun _ _ q => nomatch q)
      have st3 := put_stp (x := .ob (.exc ⟨zn, za⟩)) (v := .ref a) S2 (st.trans st2) hj (fun _ _ q => nomatch q)
      have hi3 : i < (putS j (.ob (.exc ⟨zn, za⟩)) s').d.length := by simpa [putS] using hi
      exact h _ _ _ (no_stp st3 hi3) (no_ok S3 hi3)
    · exact h.elim
theorem s_tryA {ns : List String} (hcl : cl = clOf X.K) (hex : ∀ m ∈ ns, PySem.W.exmOne X.K (.ref (clOf X.K m)) (.ref C) = some true) (hs : X.stack = X.env :: X.outer) (hf : X.env.frame = some X.env.locals) (hx : X.ex = []) (hN : X.N.Nodup) (hi : X.N[i]? = some n) (hln : X.env.kindOf n = some .local) (hc : Names X x (.ref C)) (tk : Takes X W)
    (hb : ∀ (W : WX) (pn : List (Addr × Obj)) (xe : Value → Shared → Prop), Takes (X.tr pn xe) W → PassesOwn (model X.prog X.w) X.A X.env xe → DSs (X.tr pn xe) cl W body p)
    (hsu : ∀ (a : Addr) (oe : Obj) (pn : List (Addr × Obj)), PSs (X.suite a ((a, oe) :: pn)) (b₀ :: suite) (tAsg (tVar i) (gName j))) :
    DS X cl W (.Try body [.ExceptHandler (some (.Name x np)) (some n) (b₀ :: suite) pos'] [] [] pos) (fTryA ns i j p) :=
  ps_imp (try_keep (tb := fun W => tS X.K cl W p) hs hf hx hN hi hln hc tk hb hsu) fun D σ H ⟨G, s, S, h⟩ => ⟨G, s, S, try_outA hcl hex h⟩
end
/-! ### isinstance of what was caught -/
def rIsXA (K : PySem.W.Frag) : List V → Hp → VK → Prop := fun xs H Q => ∃ (a D : Addr) (d : Option Addr) (c : V) (cv : Value) (b : Bool), xs = [.ref a, c] ∧ H a = some (excO a (.ref D) d) ∧ (∀ dd, d = some dd → ∃ fs, H dd = some (.xd fs)) ∧ ExcC K D ∧ ClsV c cv ∧ PySem.W.kitOne K (.ref D) cv = some b ∧ Q (.bl b) H
theorem inst_of {X : Cx} {pins : List (Addr × Obj)} {σ : L2.St} {H : Hp} {s : Shared} {a D : Addr} {d : Option Addr} (I : Inv X pins σ H s) (ha : H a = some (excO a (.ref D) d)) (hd : ∀ dd, d = some dd → ∃ fs, H dd = some (.xd fs)) :
    ∃ oe od, PySem.W.InstAt s.heap a oe D od ∧ ∀ dd, d = some dd → ∃ o mA, od = some o ∧ s.heap.Ns1 dd mA ∧ (∀ name, PySem.W.lookIn name o = some (mA name)) ∧ ∀ fs, H dd = some (.xd fs) → ∀ f, RelO (fs.lookup f) (mA f) := by
  obtain ⟨⟨oe, h1, z, vs, hv⟩, _⟩ := (show ObjOk X.prog X.w H s.heap a (excO a (.ref D) d) from I.hok a _ ha)
  obtain ⟨oc, od0, oda, osl⟩ := oe
  obtain ⟨z1, z2⟩ := z
  dsimp only at z1 z2 hv
  subst z1 z2 hv
  cases od0 with
  | none => exact ⟨_, none, ⟨h1, rfl, rfl, trivial⟩, fun _ q => nomatch q⟩
  | some dd =>
    obtain ⟨fs, hx⟩ := hd dd rfl
    obtain ⟨mA, hns, hr⟩ := (show ObjOk X.prog X.w H s.heap dd (.xd fs) from I.hok dd _ hx)
    obtain ⟨od, ho, hl⟩ := lookIn_ns hns
    refine ⟨_, some od, ⟨h1, rfl, rfl, ho⟩, fun dd2 q => ?_⟩
    cases q
    refine ⟨od, mA, rfl, hns, hl, fun fs2 hx2 => ?_⟩
    rw [hx] at hx2
    cases hx2
    exact hr
theorem call_isXA {X : Cx} : CallR X (.builtin "isinstance") (rIsXA X.K) := by
  intro pins s σ H xs us Q I r h
  obtain ⟨a, D, d, c, cv, b, rfl, ha, hd, C, hcv, e, q⟩ := h
  obtain ⟨u1, u2, rfl, r1, r2⟩ := vals2 r
  cases (show u1 = Value.ref a from r1)
  have ec := hcv.eq r2
  subst ec
  obtain ⟨oe, od, J, _⟩ := inst_of I ha hd
  have hcl : (PySem.W.clsIn X.K D).isSome = true := by obtain ⟨cd, hc, _⟩ := PySem.W.any_some C.hd; rw [hc]; rfl
  exact PySem.W.kia_one (PySem.W.kitx_exc hcl C.hg C.hk C.hs C.ha C.hn C.ht C.hm) I.kIn J e (fun z => nomatch z) fun tk => ⟨.bl b, H, I.kept (t' := tk) fun _ _ z => z, rfl, q⟩
theorem exa_xd {K : PySem.W.Frag} {G H : Hp} {n : String} {d : Option Addr} {arg : Option PyData} (e : Ex G H) (h : ExA K G n d arg) : ∀ dd, d = some dd → ∃ fs, H dd = some (.xd fs) := by
  intro dd q
  cases arg with
  | none => have h : d = none := h; rw [h] at q; cases q
  | some x =>
    obtain ⟨d2, v, e1, e2, _⟩ := h
    rw [e1] at q
    cases q
    exact ⟨_, e _ _ e2⟩
def kIsXA (ns : List String) (m : String) (r : R) (s : DSt) : Res R := match r with
  | .ob (.exc x) => if x.name ∈ ns ∧ m ∈ ns then .ok (.val (.bool (x.name == m))) s else .stuck
  | _ => .stuck
def fIsXA (ns : List String) (m : String) (f : M R) : M R := bnd f (kIsXA ns m)
def kIsVA (ns : List String) (r : R) (s : DSt) : Res R := match r with
  | .ob (.exc x) => if x.name ∈ ns then .ok (.val (.bool true)) s else .stuck
  | _ => .stuck
def fIsVA (ns : List String) (f : M R) : M R := bnd f (kIsVA ns)
def kIsYA (ns : List String) (m : String) (r : R) (s : DSt) : Res R := match r with
  | .ob (.exc x) => if x.name ∈ ns then .ok (.val (.bool false)) s else .stuck
  | _ => .stuck
def fIsYA (ns : List String) (m : String) (f : M R) : M R := bnd f (kIsYA ns m)
def kFld (n : String) (r : R) (s : DSt) : Res R := match r with
  | .ob (.exc ⟨m, some (.int i)⟩) => if m = n then .ok (.val (.int i)) s else .stuck
  | _ => .stuck
def fFld (n : String) (f : M R) : M R := bnd f (kFld n)
def tXfT (K : PySem.W.Frag) (f : Str) (te : TE) : TE := fun σ H Q => te σ H fun x H1 => ∃ (a C dd : Addr) (fs : List (Str × V)) (v : V), x = .ref a ∧ H1 a = some (excO a (.ref C) (some dd)) ∧ XfC K C ∧ PySem.W.findIn K (.ref C) f = some none ∧ H1 dd = some (.xd fs) ∧ fs.lookup f = some v ∧ Q v H1
section
variable {X : Cx} {cl : String → Addr} {W : WX} {x : Str} {n : String} {e iter : Expr} {es : List Expr} {f : M R} {fs : M (List R)} {p p2 pos pos' : Pos}
theorem pe_xfT {te : TE} {g : Str} (he : PE X e te) (hb : attributeBase e g X.env (eval e X.env) = eval e X.env := by rfl) : PE X (.Attribute e g pos) (tXfT X.K g te) := by
  refine ⟨fun pins s σ H Q I h => ?_⟩
  refine attr_of hb (thn (he.run pins s σ H _ I h) fun u s1 ⟨y, H1, I1, rx, a, C, dd, fs, v, ex, ha, T, hno, hx, l, q⟩ => ?_)
  subst ex
  obtain rfl : u = Value.ref a := rx
  obtain ⟨oe, od, J, k⟩ := inst_of I1 ha (fun d2 z => by cases z; exact ⟨fs, hx⟩)
  obtain ⟨o, mA, eo, hns, hl, hr⟩ := k dd rfl
  subst eo
  obtain ⟨u, hu, ru⟩ := RelO.some_of (v := v) (o := mA g) (by rw [← l]; exact hr fs hx g)
  exact HandSPX.exc_get I1.kIn J T.ga T.gg T.exC (PySem.W.findObj_own T.hdC hno rfl (by rw [hl, hu])) (handed_of ru) ⟨v, H1, I1.tok _, ru, q⟩
theorem xfc_of {K : PySem.W.Frag} {C : Addr} (h : ExcC K C) : XfC K C := ⟨h.hg, h.hk, h.hs, h.hd⟩
theorem d_fld {g : Str} (T : ExG X.K X.mg n) (hno : PySem.W.findIn X.K (.ref (clOf X.K n)) (fieldOf n) = some none) (hf : fieldOf n = g) (he : DE X cl W e f) (hb : attributeBase e g X.env (eval e X.env) = eval e X.env := by rfl) : DE X cl W (.Attribute e g pos) (fFld n f) := by
  refine pe_imp (pe_xfT he hb) fun σ H Q ⟨G, s, S, q⟩ => ?_
  refine ⟨G, s, S, out_mono (out_bind q) fun r G1 s1 H1 st1 S1 k v rr => ?_⟩
  unfold kFld at k
  split at k
  · rename_i m i
    split at k
    · rename_i hm
      subst hm hf
      obtain ⟨a, d, rfl, hga, dd, v, e1, e2, e3⟩ := rr
      have e1 : d = some dd := e1
      subst e1
      cases e3
      refine ⟨a, _, dd, _, .int i, rfl, S1.gh _ _ hga, xfc_of T.c, hno, S1.gh _ _ e2, ?_, k G1 H1 Stp.refl S1 _ (.int _)⟩
      show List.lookup (fieldOf m) [(fieldOf m, V.int i)] = _
      simp [List.lookup]
    · exact k.elim
  · exact k.elim
/-! ### isinstance -/
theorem d_isXA {ns : List String} {m : String} (T : ExGs X.K X.mg ns) (hg : Gl X "isinstance") (hm : X.mg "isinstance" = none) (ha : DE X cl W e f) (hx : PE X (.Name x p2) (tC (.ref (clOf X.K m))))
    (he : starEach (e :: [.Name x p2]) X.env = (false, eval e X.env) :: starEach [.Name x p2] X.env := by rfl) (he2 : starEach [.Name x p2] X.env = (false, eval (.Name x p2) X.env) :: starEach [] X.env := by rfl) (hpl : (backTo pos (starEach [.Name x p2] X.env)).any (·.1) = false := by rfl) :
    DE X cl W (.Call (.Name "isinstance" p) [e, .Name x p2] [] pos) (fIsXA ns m f) := by
  refine pe_imp (pe_callB call_isXA hg hm (by decide +kernel) (pa_cons ha (pa_cons hx pa_nil he2) he) (by decide) (by decide) he hpl) fun σ H Q ⟨G, s, S, q⟩ => ?_
  refine ⟨G, s, S, out_mono (out_bind q) fun r G1 s1 H1 st1 S1 k v rr => ?_⟩
  unfold kIsXA at k
  split at k
  · rename_i y
    split at k
    · rename_i hh
      obtain ⟨a, d, rfl, hga, hd⟩ := rr
      exact ⟨a, _, d, _, _, _, rfl, S1.gh _ _ hga, exa_xd S1.gh hd, (T.each _ hh.1).c, .own _, T.two _ hh.1 m hh.2, k G1 H1 Stp.refl S1 _ (.bl _)⟩
    · exact k.elim
  · exact k.elim
theorem d_isVA {ns : List String} (T : ExGs X.K X.mg ns) (hg : Gl X "isinstance") (hm : X.mg "isinstance" = none) (ha : DE X cl W e f) (hx : PE X (.Name "ValueError" p2) (tC (.ty "ValueError")))
    (he : starEach (e :: [.Name "ValueError" p2]) X.env = (false, eval e X.env) :: starEach [.Name "ValueError" p2] X.env := by rfl) (he2 : starEach [.Name "ValueError" p2] X.env = (false, eval (.Name "ValueError" p2) X.env) :: starEach [] X.env := by rfl) (hpl : (backTo pos (starEach [.Name "ValueError" p2] X.env)).any (·.1) = false := by rfl) :
    DE X cl W (.Call (.Name "isinstance" p) [e, .Name "ValueError" p2] [] pos) (fIsVA ns f) := by
  refine pe_imp (pe_callB call_isXA hg hm (by decide +kernel) (pa_cons ha (pa_cons hx pa_nil he2) he) (by decide) (by decide) he hpl) fun σ H Q ⟨G, s, S, q⟩ => ?_
  refine ⟨G, s, S, out_mono (out_bind q) fun r G1 s1 H1 st1 S1 k v rr => ?_⟩
  unfold kIsVA at k
  split at k
  · rename_i y
    split at k
    · rename_i hh
      obtain ⟨a, d, rfl, hga, hd⟩ := rr
      exact ⟨a, _, d, _, _, _, rfl, S1.gh _ _ hga, exa_xd S1.gh hd, (T.each _ hh).c, .ty _, kit_V (T.each _ hh).v, k G1 H1 Stp.refl S1 _ (.bl _)⟩
    · exact k.elim
  · exact k.elim
theorem d_isYA {ns : List String} {m : String} (T : ExGs X.K X.mg ns) (Y : ExY X.K X.mg ns m) (hg : Gl X "isinstance") (hm : X.mg "isinstance" = none) (ha : DE X cl W e f) (hx : PE X (.Name x p2) (tC (.ref (clOf X.K m))))
    (he : starEach (e :: [.Name x p2]) X.env = (false, eval e X.env) :: starEach [.Name x p2] X.env := by rfl) (he2 : starEach [.Name x p2] X.env = (false, eval (.Name x p2) X.env) :: starEach [] X.env := by rfl) (hpl : (backTo pos (starEach [.Name x p2] X.env)).any (·.1) = false := by rfl) :
    DE X cl W (.Call (.Name "isinstance" p) [e, .Name x p2] [] pos) (fIsYA ns m f) := by
  refine pe_imp (pe_callB call_isXA hg hm (by decide +kernel) (pa_cons ha (pa_cons hx pa_nil he2) he) (by decide) (by decide) he hpl) fun σ H Q ⟨G, s, S, q⟩ => ?_
  refine ⟨G, s, S, out_mono (out_bind q) fun r G1 s1 H1 st1 S1 k v rr => ?_⟩
  unfold kIsYA at k
  split at k
  · rename_i y
    split at k
    · rename_i hh
      obtain ⟨a, d, rfl, hga, hd⟩ := rr
      exact ⟨a, _, d, _, _, _, rfl, S1.gh _ _ hga, exa_xd S1.gh hd, (T.each _ hh).c, .own _, Y.two _ hh, k G1 H1 Stp.refl S1 _ (.bl _)⟩
    · exact k.elim
  · exact k.elim
/-! ### a list of errors made by hand -/
def fMkX (n : String) (f : M R) : M R := bnd f fun r s => match r with
  | .val (.int i) => .ok (.ob (.exc ⟨n, some (.int i)⟩)) s
  | _ => .stuck
def exsOf (n : String) : List R → Option (List Int)
  | [] => some []
  | .ob (.exc ⟨m, some (.int i)⟩) :: r => if m = n then (exsOf n r).map (i :: ·) else none
  | _ => none
def fExcs (n : String) (fs : M (List R)) : M R := bnd fs fun rs s => match exsOf n rs with
  | some is => if leS rs.length then .ok (.ob (.excs n is)) s else .stuck
  | none => .stuck
def fFlds (n : String) (i : Nat) (f : M R) : M R := bnd f fun r s => match r with
  | .ob (.excs m is) => if m = n ∧ leS is.length ∧ i < s.d.length then .ok (.new (is.map .int)) s else .stuck
  | _ => .stuck
theorem exall_len {K : PySem.W.Frag} {G : Hp} : ∀ {vs : List V} {is : List Int}, ExAll K G n vs is → vs.length = is.length
  | _, _, .nil => rfl
  | _, _, .cons _ _ t => by simp [exall_len t]
theorem exall_get {K : PySem.W.Frag} {G : Hp} : ∀ {vs : List V} {is : List Int} {i : Nat} {v : V}, ExAll K G n vs is → vs[i]? = some v → ∃ (b d : Addr) (z : Int), v = .ref b ∧ is[i]? = some z ∧ G b = some (excO b (.ref (clOf K n)) (some d)) ∧ G d = some (.xd [(fieldOf n, .int z)])
  | _, _, i, v, .nil, e => by simp at e
  | _, _, 0, v, .cons h1 h2 t, e => by simp at e; subst e; exact ⟨_, _, _, rfl, rfl, h1, h2⟩
  | _, _, i + 1, v, .cons h1 h2 t, e => by simpa using exall_get (i := i) t (by simpa using e)
end
/-! ### rows for simp -/
section
variable {s : DSt} {f : M R} {fs : M (List R)} {p : DSt → Flow} {n : String}
def kRaiseA (n : String) (r : R) (s : DSt) : Flow := match r with
  | .val (.int i) => .err ⟨n, some (.int i)⟩ s
  | _ => .stuck
@[simp] theorem x_raiseA : fRaiseA n f s = onRes (f s) (kRaiseA n) := by
  unfold fRaiseA onRes kRaiseA
  cases f s with
  | ok r s' => cases r with
    | val d => cases d <;> rfl
    | _ => rfl
  | err x s' => rfl
  | stuck => rfl
@[simp] theorem y_kRaiseA {i : Int} : kRaiseA n (.val (.int i)) s = .err ⟨n, some (.int i)⟩ s := Eq.trans rfl rfl
def kTryA (ns : List String) (i j : Nat) (fl : Flow) : Flow := match fl with
  | .err x s' => if isCaughtA ns x = true ∧ i < s'.d.length ∧ j < s'.d.length ∧ i ≠ j then .next (putS i .no (putS j (.ob (.exc x)) s')) else .stuck
  | fl => fl
@[simp] theorem x_tryA {ns : List String} {i j : Nat} : fTryA ns i j p s = kTryA ns i j (p s) := by
  unfold fTryA kTryA
  cases p s <;> rfl
@[simp] theorem y_kTryA_next {ns : List String} {i j : Nat} : kTryA ns i j (.next s) = .next s := Eq.trans rfl rfl
@[simp] theorem y_kTryA_ret {ns : List String} {i j : Nat} {r : R} : kTryA ns i j (.ret r s) = .ret r s := Eq.trans rfl rfl
def argOk (a : Option PyData) : Prop := a = none ∨ ∃ i, a = some (.int i)
theorem y_kTryA_err {ns : List String} {i j : Nat} {n : String} {a : Option PyData} (h : argOk a) : kTryA ns i j (.err ⟨n, a⟩ s) = if n ∈ ns ∧ i < s.d.length ∧ j < s.d.length ∧ i ≠ j then .next (putS i .no (putS j (.ob (.exc ⟨n, a⟩)) s)) else .stuck := by
  show (if isCaughtA ns ⟨n, a⟩ = true ∧ _ then _ else _) = _
  have : isCaughtA ns ⟨n, a⟩ = true ↔ n ∈ ns := by
    rcases h with rfl | ⟨i, rfl⟩ <;> simp [isCaughtA]
  simp only [this]
@[simp] theorem y_kIsXA {ns : List String} {m : String} {x : Exn} : kIsXA ns m (.ob (.exc x)) s = if x.name ∈ ns ∧ m ∈ ns then .ok (.val (.bool (x.name == m))) s else .stuck := Eq.trans rfl rfl
@[simp] theorem x_isXA {ns : List String} {m : String} : fIsXA ns m f s = (f s).bind (kIsXA ns m) := Eq.trans rfl rfl
@[simp] theorem y_kIsVA {ns : List String} {x : Exn} : kIsVA ns (.ob (.exc x)) s = if x.name ∈ ns then .ok (.val (.bool true)) s else .stuck := Eq.trans rfl rfl
@[simp] theorem x_isVA {ns : List String} : fIsVA ns f s = (f s).bind (kIsVA ns) := Eq.trans rfl rfl
@[simp] theorem y_kIsYA {ns : List String} {m : String} {x : Exn} : kIsYA ns m (.ob (.exc x)) s = if x.name ∈ ns then .ok (.val (.bool false)) s else .stuck := Eq.trans rfl rfl
@[simp] theorem x_isYA {ns : List String} {m : String} : fIsYA ns m f s = (f s).bind (kIsYA ns m) := Eq.trans rfl rfl
@[simp] theorem y_kFld {m : String} {i : Int} : kFld n (.ob (.exc ⟨m, some (.int i)⟩)) s = if m = n then .ok (.val (.int i)) s else .stuck := Eq.trans rfl rfl
@[simp] theorem x_fld : fFld n f s = (f s).bind (kFld n) := Eq.trans rfl rfl
def kMkX (n : String) (r : R) (s : DSt) : Res R := match r with
  | .val (.int i) => .ok (.ob (.exc ⟨n, some (.int i)⟩)) s
  | _ => .stuck
@[simp] theorem x_mkX : fMkX n f s = (f s).bind (kMkX n) := Eq.trans rfl rfl
@[simp] theorem y_kMkX {i : Int} : kMkX n (.val (.int i)) s = .ok (.ob (.exc ⟨n, some (.int i)⟩)) s := Eq.trans rfl rfl
def kExcs (n : String) (rs : List R) (s : DSt) : Res R := match exsOf n rs with
  | some is => if leS rs.length then .ok (.ob (.excs n is)) s else .stuck
  | none => .stuck
@[simp] theorem x_excs : fExcs n fs s = (fs s).bind (kExcs n) := Eq.trans rfl rfl
def kFlds (n : String) (i : Nat) (r : R) (s : DSt) : Res R := match r with
  | .ob (.excs m is) => if m = n ∧ leS is.length ∧ i < s.d.length then .ok (.new (is.map .int)) s else .stuck
  | _ => .stuck
@[simp] theorem x_flds {i : Nat} : fFlds n i f s = (f s).bind (kFlds n i) := Eq.trans rfl rfl
@[simp] theorem y_kFlds {m : String} {i : Nat} {is : List Int} : kFlds n i (.ob (.excs m is)) s = if m = n ∧ leS is.length ∧ i < s.d.length then .ok (.new (is.map .int)) s else .stuck := Eq.trans rfl rfl
@[simp] theorem y_kExcs3 {a b c : Int} (h : leS 3) : kExcs n [.ob (.exc ⟨n, some (.int a)⟩), .ob (.exc ⟨n, some (.int b)⟩), .ob (.exc ⟨n, some (.int c)⟩)] s = .ok (.ob (.excs n [a, b, c])) s := by
  unfold kExcs
  simp [exsOf, h]
end
/-! ### the facts of the classes, from the written part -/
section
variable {K : PySem.W.Frag} {h : Heap} {mg : Str → Option Value} {n : String} {C CF : Addr}
theorem exg_mk (X : PySem.W.Frag.In K h) (G : h.Ns mainGlobals mg) (a : PySem.W.nsIn K mainGlobals (Str.ofString n) = some (some (.ref C))) (x : n ≠ "NoFall" → n ≠ "NoText" → PySem.W.excIn K C [.type "ValueError", .type "Exception", .type "BaseException", .type "object"] "ValueError.__new__" = true) (kp : PySem.W.keepIn K (.ref C) = true)
    (b : PySem.W.subIn K (.ref C) (.type "BaseException") = some true) (ty : PySem.W.typeIn K (.ref C) = some (.type "type")) (v : PySem.W.subIn K (.ref C) (.type "ValueError") = some true) (hd : PySem.W.hasDictIn K C = true)
    (hg : PySem.W.findIn K (.ref C) "__getattribute__" = some (some (.builtin "BaseException.__getattribute__"))) (hk : PySem.W.findIn K (.ref C) "__getattr__" = some none) (hc : PySem.W.findIn K (.ref C) "__class__" = some (some (.builtin "object.__class__")))
    (hm : PySem.W.mroIn K C (.type "object") = some true) (s0 : PySem.W.specialIn K (.builtin "object.__class__") "__get__" = some (some (.builtin "getset_descriptor.__get__"))) (t0 : PySem.W.takesIn K (.builtin "object.__class__") = some true) : ExG K mg n := by
  have g := PySem.W.mg_of X G a
  have e := clOf_of a
  subst e
  exact ⟨g, kp, b, ty, ⟨hg, hk, b, hd, hc, s0, t0, hm⟩, v, x⟩
theorem ox_mk {q g : Str} {st : Stmt} {f : Addr} {oc : Value} {od an : Option Addr} {osl : Array (Option Value)} {kV dc pm cdv ct : Value} {nm qn : Str} {N : Addr} {bs bm : List Value} {sn : List Str} {sub : List Value} {ab : Bool} {col : Option Bool} {dd : Option Addr} {k0 k1 k2 k3 k5 : Option Value}
    (X : PySem.W.Frag.In K h) (G : h.Ns mainGlobals mg) (fl : fieldOf n = g) (ca : PySem.W.nsIn K mainGlobals (Str.ofString n) = some (some (.ref C))) (co : K.lookup C = some (excClassObj nm qn C N bs bm true sn sub ab col dd k0 k1 k2 k3 k5 "ValueError.__new__")) (cr : PySem.HandSPX.refsVE bm = true)
    (sa : PySem.W.findIn K (.ref C) "__setattr__" = some (some (.builtin "object.__setattr__"))) (cb : PySem.W.subIn K (.ref C) (.type "BaseException") = some true) (ct' : PySem.W.typeIn K (.ref C) = some (.type "type")) (ck : PySem.W.keepIn K (.ref C) = true)
    (no : PySem.W.findIn K (.ref C) g = some none) (fi : PySem.W.findIn K (.ref C) "__init__" = some (some (.ref f))) (tf : PySem.W.typeIn K (.ref f) = some (.type "function"))
    (l : K.lookup f = some ⟨oc, od, .func (PySem.W.fnOf "__init__" q (defArgs st) (defBody st) (defScope st) .none kV dc pm an cdv ct), osl⟩) (c : PySem.W.codeIn K cdv q = true) (k : PySem.W.keepIn K (.ref f) = true)
    (bi : ∀ (kV doc pm : Value) (an : Option Addr) (cdv ct : Value) (us : List Value), us.length = 2 → bindArgs (PySem.W.fnOf "__init__" q (defArgs st) (defBody st) (defScope st) .none kV doc pm an cdv ct) ⟨us, []⟩ = pure ((["self", g] : List Str).zip us))
    (caF : PySem.W.nsIn K mainGlobals "FolkError" = some (some (.ref CF))) (rd : PySem.W.readsIn K CF (.type "type") = true) (ga : PySem.W.specialIn K (.ref CF) "__getattribute__" = some (some (.builtin "type.__getattribute__")))
    (fc : PySem.W.findCls K (.ref CF) (.type "type") "__init__" = some (.val (.builtin "ValueError.__init__"))) : OxF K mg n q st := by
  have gm := PySem.W.mg_of X G ca
  have e := clOf_of ca
  subst e fl
  have F : L2.Fun K "__init__" q st f _ := fun_mk l c k
  exact ⟨⟨⟨_, _, _, _, _, _, _, _, _, _, _, _, _, _, _, co, cr⟩, sa, cb, ct', ck⟩, no, gm, ⟨f, _, fi, tf, F, F.binds bi⟩, ⟨CF, PySem.W.mg_of X G caF, ⟨rd, ga⟩, fc⟩⟩
end
end DL

/-! DL84: for a, b in zip(x, y), x a list and y a tuple -/
noncomputable section
namespace DL
open PySem L2 PyProof.Rows
open Evl (Ex)
def ItzM (K : PySem.W.Frag) (a b : Addr) : It :=
  ⟨fun i H => ∃ (xs ys : List V) (x y : V), SqL K H a xs ∧ SqT K H b ys ∧ xs[i]? = some x ∧ ys[i]? = some y,
    fun i H v H' => ∃ T x y, v = .ref T ∧ H T = none ∧ H' = upd H T (.tup [x, y]) ∧ (∀ xs, SqL K H a xs → xs[i]? = some x) ∧ ∀ ys, SqT K H b ys → ys[i]? = some y,
    fun i H => ∃ xs ys : List V, SqL K H a xs ∧ SqT K H b ys ∧ (xs.length ≤ i ∨ ys.length ≤ i)⟩
theorem itM_neT {h : Heap} {it l m : Addr} {i : Nat} {items : Array Value} (a : h.IsTupleIter it l i) (b : h.IsTuple m items) : m ≠ it := fun q => by
  subst q
  obtain ⟨_, e, ec, _⟩ := a
  obtain ⟨_, f, fc, _⟩ := b
  rw [e] at f
  cases f
  simp [ec] at fc
theorem drawsM_tup {prog : Program} {w : World} {A : Around} (hh : A.handled = none) {it l : Addr} (hne : l ≠ it) (items : Array Value) {i : Nat} {h : Heap} (h1 : h.IsTupleIter it l i) (h2 : h.IsTuple l items) :
    ∃ (n : Nat) (P : Nat → Value → Prop) (St : Nat → Heap → Prop), PySem.Draws prog w A it [it, l] n P St ∧ St i h ∧ i ≤ n ∧ (items.size ≤ i → i = n) := by
  by_cases q : i < items.size
  · exact ⟨_, _, _, PySem.Draws.tuple hh it l hne items, ⟨h1, h2⟩, Nat.le_of_lt q, fun z => by omega⟩
  · refine ⟨i, fun _ _ => True, fun j h => j = i ∧ h.IsTupleIter it l i ∧ h.IsTuple l items, ⟨fun j h st => let ⟨o, ho, _⟩ := st.2.1; ⟨o, ho⟩, fun j h h' st hk => ⟨st.1, st.2.1.at fun o e => hk it (by simp) o e, st.2.2.at fun o e => hk l (by simp) o e⟩, fun j s Q E hj st => absurd st.1 (by omega), fun s Q E st hE => ?_⟩, ⟨rfl, h1, h2⟩, Nat.le_refl _, fun _ => rfl⟩
    exact wpAny_nextOf_tuple_end hh st.2.1 st.2.2 (by simp; omega) hE
def iZipM (K : PySem.W.Frag) (ta : TA) : TI := fun σ H R => ta σ H fun vs H1 => ∃ a b xs ys, vs = [.ref a, .ref b] ∧ SqL K H1 a xs ∧ SqT K H1 b ys ∧ R (ItzM K a b) H1
theorem sqt_ex {K : PySem.W.Frag} {G H : Hp} {a : Addr} {xs : List V} (h : SqT K G a xs) (k : ∀ b o, G b = some o → H b = some o) : SqT K H a xs := by
  rcases h with (h | ⟨o, h⟩) | h
  · exact .inl (.inl (k _ _ h))
  · exact .inl (.inr ⟨o, k _ _ h⟩)
  · exact .inr h
def kZipM (rs : List R) (s : DSt) : Res (List PyData) := match rs with
  | [.val (.list ds), .val (.tuple es)] => .ok (zipD ds es) s
  | _ => .stuck
def fZipM (fs : M (List R)) : M (List PyData) := bnd fs kZipM
@[simp] theorem y_kZipM (ds es : List PyData) (s : DSt) : kZipM [.val (.list ds), .val (.tuple es)] s = .ok (zipD ds es) s := Eq.trans rfl rfl
@[simp] theorem x_zipM {fs : M (List R)} {s : DSt} : fZipM fs s = (fs s).bind kZipM := Eq.trans rfl rfl
section
variable {X : Cx} {cl : String → Addr} {W : WX} {e : Expr} {fs : M (List R)}
end
end DL

/-! DL86: texts: join, the signs of a text, a sign in a text, int of a text -/
noncomputable section
namespace DL
open PySem L2 PyProof.Rows
open Evl (Ex)
/-! ### join -/
def strsD : List PyData → Option (List Str)
  | [] => some []
  | .str x :: ds => (strsD ds).map (x :: ·)
  | _ :: _ => none
@[simp] theorem strsD_map {ys : List Str} : strsD (ys.map .str) = some ys := by
  induction ys with
  | nil => rfl
  | cons y ys ih => simp [strsD, ih]
theorem strs_rp {K : PySem.W.Frag} {G : Hp} : ∀ {ds : List PyData} {xs : List V} {ys : List Str}, RpAll K G xs ds → strsD ds = some ys → xs = ys.map V.str
  | [], _, ys, h, e => by
    cases h
    cases e
    rfl
  | d :: ds, _, ys, h, e => by
    cases h with
    | cons h1 h2 =>
      cases d with
      | str x =>
        cases q : strsD ds with
        | none => simp [strsD, q] at e
        | some zs =>
          simp [strsD, q] at e
          subst e
          cases h1
          rw [strs_rp h2 q]
          rfl
      | _ => simp [strsD] at e
def leJ (a : Str) (ys : List Str) : Prop := (ys.map (·.length)).sum + ys.length * a.length ≤ 16777216
instance (a : Str) (ys : List Str) : Decidable (leJ a ys) := Classical.propDecidable _
def kJoinB (a : Str) (y : R) (s : DSt) : Res R := match look y s with
  | some (.list ds) => (match strsD ds with
    | some ys => if leJ a ys then .ok (.val (.str (Txt.join a ys))) s else .stuck
    | none => .stuck)
  | _ => .stuck
@[simp] theorem y_kJoinB (a : Str) (y : R) (s : DSt) : kJoinB a y s = (match look y s with
  | some (.list ds) => (match strsD ds with
    | some ys => if leJ a ys then .ok (.val (.str (Txt.join a ys))) s else .stuck
    | none => .stuck)
  | _ => .stuck) := Eq.trans rfl rfl
def kJoinA (g : M R) (x : R) (s : DSt) : Res R := match look x s with
  | some (.str a) => (g s).bind (kJoinB a)
  | _ => .stuck
@[simp] theorem y_kJoinA {g : M R} {a : Str} {s : DSt} : kJoinA g (.val (.str a)) s = (g s).bind (kJoinB a) := Eq.trans rfl rfl
def fJoin (f g : M R) : M R := bnd f (kJoinA g)
@[simp] theorem x_join {f g : M R} {s : DSt} : fJoin f g s = (f s).bind (kJoinA g) := Eq.trans rfl rfl
section
variable {X : Cx} {cl : String → Addr} {W : WX} {a b e : Expr} {f g : M R} {pos : Pos}
theorem d_join {apos : Pos} (ha : DE X cl W a f) (hb : DE X cl W b g) (hs : starEach [b] X.env = [(false, eval b X.env)] := by rfl) (hbase : attributeBase a "join" X.env (eval a X.env) = eval a X.env := by rfl) (hline : (apos.endLine == pos.line) = true := by rfl) :
    DE X cl W (.Call (.Attribute a "join" apos) [b] [] pos) (fJoin f g) := by
  refine pe_imp (pe_join ha hb hs hbase hline) fun σ H Q ⟨G, s, S, q⟩ => ?_
  refine ⟨G, s, S, out_mono (out_bind q) fun r G1 s1 H1 st1 S1 k1 v rr => ?_⟩
  unfold kJoinA at k1
  split at k1
  · rename_i x e1
    obtain rfl := dq_str (look_q S1 rr e1)
    refine ⟨⟨x, rfl⟩, G1, s1, S1, out_mono (out_bind k1) fun r2 G2 s2 H2 st2 S2 k2 u ru => ?_⟩
    unfold kJoinB at k2
    split at k2
    · rename_i ds e2
      obtain ⟨p, xs, rfl, hp, hx⟩ := dq_lst (look_q S2 ru e2)
      split at k2
      · rename_i ys e3
        split at k2
        · rename_i hl
          obtain rfl := strs_rp hx e3
          exact ⟨x, p, ys, rfl, rfl, .inl (.of hp), hl, k2 _ _ Stp.refl S2 _ (.str _)⟩
        · exact k2.elim
      · exact k2.elim
    · exact k2.elim
  · exact k1.elim
end
/-! ### the signs of a text -/
def sgnD (x : Str) : List PyData := x.cps.toList.map fun c => PyData.str ⟨#[c]⟩
theorem it_str {K : PySem.W.Frag} {G : Hp} {x : Str} : ItOk K (Its x) (sgnD x) G := by
  intro G' s' σ' H' ex S i
  refine ⟨fun d e => ?_, fun hl => ?_⟩
  · unfold sgnD at e
    rw [List.getElem?_map] at e
    cases q : x.cps.toList[i]? with
    | none => rw [q] at e; cases e
    | some c =>
      rw [q] at e
      have e2 : d = .str ⟨#[c]⟩ := (Option.some.inj e).symm
      subst e2
      have hi : i < x.cps.size := by
        have := (List.getElem?_eq_some_iff.mp q).1
        simpa using this
      refine ⟨hi, fun v H2 ⟨h1, c', h2, h3⟩ => ?_⟩
      subst h1 h3
      have : x.cps[i]? = some c := by rw [← Array.getElem?_toList]; exact q
      rw [this] at h2
      cases h2
      exact ⟨G', Stp.refl, S, .str _⟩
  · show x.cps.size ≤ i
    unfold sgnD at hl
    rw [List.length_map] at hl
    simpa using hl
def kStrI (r : R) (s : DSt) : Res (List PyData) := match look r s with
  | some (.str x) => .ok (sgnD x) s
  | _ => .stuck
def fStrI (f : M R) : M (List PyData) := bnd f kStrI
@[simp] theorem x_strI {f : M R} {s : DSt} : fStrI f s = (f s).bind kStrI := Eq.trans rfl rfl
@[simp] theorem y_kStrI (r : R) (s : DSt) : kStrI r s = (match look r s with | some (.str x) => .ok (sgnD x) s | _ => .stuck) := Eq.trans rfl rfl
section
variable {X : Cx} {cl : String → Addr} {W : WX} {a b e tg : Expr} {f g : M R} {pos : Pos}
theorem i_str (h : DE X cl W e f) : DI X cl W tg e (fStrI f) := by
  refine pi_imp (pi_str h) fun σ H R ⟨G, s, S, q⟩ => ?_
  refine ⟨G, s, S, out_mono (out_bind q) fun r G1 s1 H1 st1 S1 k v rr => ?_⟩
  unfold kStrI at k
  split at k
  · rename_i x e1
    obtain rfl := dq_str (look_q S1 rr e1)
    exact ⟨x, rfl, k G1 H1 Stp.refl S1 _ it_str⟩
  · exact k.elim
end
/-! ### a sign in a text -/
def sgO (neg : Bool) (d e : PyData) : Option R := match d, e with
  | .str y, .str z => (match y.cps.toList with
    | [c] => some (.val (.bool (neg != decide (c ∈ z.cps.toList))))
    | _ => none)
  | _, _ => none
@[simp] theorem x_sgO {neg : Bool} {c : Nat} {z : Str} : sgO neg (.str ⟨#[c]⟩) (.str z) = some (.val (.bool (neg != decide (c ∈ z.cps.toList)))) := Eq.trans rfl rfl
def rSg (neg : Bool) : R2 := fun x y H Q => ∃ c z, x = .str ⟨#[c]⟩ ∧ y = .str z ∧ Q (.bl (neg != decide (c ∈ z.cps.toList))) H
section
variable {X : Cx}
theorem op_sgIn : OpR X (compareOp .In) (rSg false) := by
  intro pins s σ H x y v u Q I rx ry ⟨c, z, h1, h2, q⟩
  exact op_in_sign pins s σ H x y v u Q I rx ry ⟨c, z, h1, h2, by simpa using q⟩
theorem op_sgNot : OpR X (compareOp .NotIn) (rSg true) := by
  intro pins s σ H x y v u Q I rx ry ⟨c, z, h1, h2, q⟩
  exact op_notIn_sign pins s σ H x y v u Q I rx ry ⟨c, z, h1, h2, by simpa using q⟩
end
theorem opd_sg {K : PySem.W.Frag} {neg : Bool} : OpD K (rSg neg) (sgO neg) := by
  intro G H x y d e r Q ex hx hy ho k
  unfold sgO at ho
  split at ho
  · rename_i y' z
    split at ho
    · rename_i c ec
      cases ho
      obtain rfl := dq_str hx
      obtain rfl := dq_str hy
      have : y' = ⟨#[c]⟩ := by
        cases y' with
        | mk a =>
          congr 1
          exact Array.toList_inj.mp ec
      subst this
      exact ⟨c, z, rfl, rfl, k.1 _ (.bl _)⟩
    · cases ho
  · cases ho
section
variable {X : Cx} {cl : String → Addr} {W : WX} {a b : Expr} {f g : M R} {pos : Pos}
theorem d_sgIn (hm : behindInMarks .In b = false) (ha : DE X cl W a f) (hb : DE X cl W b g) : DE X cl W (.Compare a [.In] [b] pos) (fOp (lift2 (sgO false)) f g) := d_op2 (fun h1 h2 => pe_cmpR op_sgIn h1 h2 hm) (ops_lift opd_sg) ha hb
theorem t_sgNot (hm : behindInMarks .NotIn b = false) (ha : DE X cl W a f) (hb : DE X cl W b g) : DT X cl W (.Compare a [.NotIn] [b] pos) (fB (fOp (lift2 (sgO true)) f g)) := d_opT (fun h1 h2 => pt_cmpR op_sgNot h1 h2 hm) (ops_lift opd_sg) ha hb
end
/-! ### int of a text -/
def intTO : List PyData → Option R
  | [.str x] => (match PySem.intText? x with
    | some n => if x.length ≤ 640 then some (.val (.int n)) else none
    | none => none)
  | _ => none
theorem cd_intT {K : PySem.W.Frag} : CallD K (fun xs H Q => ∃ a n, xs = [V.str a] ∧ PySem.intText? a = some n ∧ a.length ≤ 640 ∧ Q (.int n) H) intTO := by
  intro G H vs ds r' Q ex hv ho k
  unfold intTO at ho
  split at ho
  · rename_i x
    split at ho
    · rename_i n en
      split at ho
      · rename_i hl
        cases ho
        cases hv with
        | cons h t =>
          cases t
          obtain rfl := dq_str h
          exact ⟨x, n, rfl, en, hl, k.1 _ (.int _)⟩
      · cases ho
    · cases ho
  · cases ho
end DL

/-! DL88: texts: slices, told so many times, replace -/
noncomputable section
namespace DL
open PySem L2 PyProof.Rows
open Evl (Ex)
/-! ### slices -/
def kSlT (lo hi : Option Int) (x : R) (s : DSt) : Res R := match look x s with
  | some (.str z) => if leS z.length then .ok (.val (.str (cutS z lo hi))) s else .stuck
  | _ => .stuck
@[simp] theorem y_kSlT (lo hi : Option Int) (x : R) (s : DSt) : kSlT lo hi x s = (match look x s with
  | some (.str z) => if leS z.length then .ok (.val (.str (cutS z lo hi))) s else .stuck
  | _ => .stuck) := Eq.trans rfl rfl
def kSlH (lo : Option Int) (x : R) (hi : Option Int) : M R := kSlT lo hi x
@[simp] theorem y_kSlH (lo : Option Int) (x : R) (hi : Option Int) (s : DSt) : kSlH lo x hi s = kSlT lo hi x s := Eq.trans rfl rfl
def kSlL (h : M (Option Int)) (x : R) (lo : Option Int) (s : DSt) : Res R := (h s).bind (kSlH lo x)
@[simp] theorem y_kSlL (h : M (Option Int)) (x : R) (lo : Option Int) (s : DSt) : kSlL h x lo s = (h s).bind (kSlH lo x) := Eq.trans rfl rfl
def kSlA (l h : M (Option Int)) (x : R) (s : DSt) : Res R := (l s).bind (kSlL h x)
@[simp] theorem y_kSlA (l h : M (Option Int)) (x : R) (s : DSt) : kSlA l h x s = (l s).bind (kSlL h x) := Eq.trans rfl rfl
def fSlT (f : M R) (l h : M (Option Int)) : M R := bnd f (kSlA l h)
@[simp] theorem x_slT {f : M R} {l h : M (Option Int)} {s : DSt} : fSlT f l h s = (f s).bind (kSlA l h) := Eq.trans rfl rfl
section
variable {X : Cx} {cl : String → Addr} {W : WX} {a b e : Expr} {f g : M R} {pos : Pos}
end
/-! ### a text so many times -/
def inT (x : Str) (n : Int) : Prop := MulOk x n
instance (x : Str) (n : Int) : Decidable (inT x n) := Classical.propDecidable _
def mulSO : PyData → PyData → Option R
  | .str x, .int n => if inT x n then some (.val (.str (Txt.mul x n))) else none
  | _, _ => none
@[simp] theorem x_mulSO {x : Str} {n : Int} : mulSO (.str x) (.int n) = if inT x n then some (.val (.str (Txt.mul x n))) else none := Eq.trans rfl rfl
def rMulS : R2 := fun x y H Q => ∃ z n, x = .str z ∧ y = .int n ∧ MulOk z n ∧ Q (.str (Txt.mul z n)) H
theorem op_mulS {X : Cx} : OpR X (binaryOp .Mult) rMulS := by
  intro pins s σ H x y v u Q I rx ry ⟨z, n, h1, h2, hm, q⟩
  subst h1 h2
  obtain ⟨t, rfl⟩ := rx
  obtain ⟨t', rfl⟩ := ry
  exact PySem.SB.mul hm fun t' k => ⟨.str _, H, I.tok k, ⟨t', rfl⟩, q⟩
theorem opd_mulS {K : PySem.W.Frag} : OpD K rMulS mulSO := by
  intro G H x y d e r Q ex hx hy ho k
  unfold mulSO at ho
  split at ho
  · split at ho
    · rename_i hm
      cases ho
      obtain rfl := dq_str hx
      obtain rfl := dq_int hy
      exact ⟨_, _, rfl, rfl, hm, k.1 _ (.str _)⟩
    · cases ho
  · cases ho
section
variable {X : Cx} {cl : String → Addr} {W : WX} {a b e : Expr} {f g : M R} {pos : Pos}
theorem d_mulS (ha : DE X cl W a f) (hb : DE X cl W b g) : DE X cl W (.BinOp a .Mult b pos) (fOp (lift2 mulSO) f g) := d_op2 (pe_op op_mulS) (ops_lift opd_mulS) ha hb
/-! ### x[i].replace("..", "..") -/
def leR (x z : Str) : Prop := x.length + (x.length + 1) * z.length ≤ 16777216
instance (x z : Str) : Decidable (leR x z) := Classical.propDecidable _
def kRep (i : Int) (y z : Str) (r : R) (s : DSt) : Res R := match look r s with
  | some (.list ds) => (match atI ds i with
    | some (.str x) => if (y == z) = false ∧ leR x z then .ok (.val (.str (Txt.replace x y z))) s else .stuck
    | _ => .stuck)
  | _ => .stuck
@[simp] theorem y_kRep (i : Int) (y z : Str) (r : R) (s : DSt) : kRep i y z r s = (match look r s with
  | some (.list ds) => (match atI ds i with
    | some (.str x) => if (y == z) = false ∧ leR x z then .ok (.val (.str (Txt.replace x y z))) s else .stuck
    | _ => .stuck)
  | _ => .stuck) := Eq.trans rfl rfl
def fRep (i : Int) (y z : Str) (f : M R) : M R := bnd f (kRep i y z)
@[simp] theorem x_rep {i : Int} {y z : Str} {f : M R} {s : DSt} : fRep i y z f s = (f s).bind (kRep i y z) := Eq.trans rfl rfl
end
end DL

/-! DL89: for x in e: S1; S2; y.append(c), y a list of errors that is grown -/
noncomputable section
namespace DL
open PySem L2 PyProof.Rows
open Evl (Ex)
open Classical in
def runH (j c : Nat) (n : String) (bd : Bd) (p1 p2 : DSt → Flow) : List PyData → List Int → DSt → Option (List Int × DSt)
  | [], is, s => some (is, s)
  | d :: ds, is, s => match bd d s with
    | none => none
    | some s1 => match p1 s1 with
      | .next s2 => (match p2 s2 with
        | .next s3 => (match s3.d[c]? with
          | some (.ob (.exc ⟨m, some (.int i)⟩)) => if m = n ∧ ltS is.length ∧ s3.d[j]? = s.d[j]? then runH j c n bd p1 p2 ds (is ++ [i]) s3 else none
          | _ => none)
        | _ => none)
      | _ => none
def okH (j c : Nat) (n : String) (bd : Bd) (p1 p2 : DSt → Flow) (ds : List PyData) (s : DSt) (r : List Int × DSt) : Prop := ∀ a : Addr, runH j c n bd p1 p2 ds [] (putS j (.raw (.ref a)) s) = some (r.1, putS j (.raw (.ref a)) r.2)
open Classical in
def kForH (j c : Nat) (n : String) (bd : Bd) (p1 p2 : DSt → Flow) (ds : List PyData) (s : DSt) : Flow := match s.d[j]? with
  | some (.own []) => if h : ∃ r, okH j c n bd p1 p2 ds s r then .next (putS j (.ob (.excs n (Classical.choose h).1)) (Classical.choose h).2) else .stuck
  | _ => .stuck
def fForH (j c : Nat) (n : String) (fi : M (List PyData)) (bd : Bd) (p1 p2 : DSt → Flow) : DSt → Flow := fun s => onRes (fi s) (kForH j c n bd p1 p2)
theorem kForH_ok {j c : Nat} {n : String} {bd : Bd} {p1 p2 : DSt → Flow} {ds : List PyData} {s : DSt} {is : List Int} {s' : DSt} (h0 : s.d[j]? = some (.own [])) (h : okH j c n bd p1 p2 ds s (is, s')) : kForH j c n bd p1 p2 ds s = .next (putS j (.ob (.excs n is)) s') := by
  have hx : ∃ r, okH j c n bd p1 p2 ds s r := ⟨_, h⟩
  unfold kForH
  rw [h0]
  dsimp only
  rw [dif_pos hx]
  have e1 := Classical.choose_spec hx 0
  have e2 := h 0
  rw [e2] at e1
  have e3 := Option.some.inj e1
  have e4 := (Prod.mk.inj e3).1
  have e5 := (Prod.mk.inj e3).2
  dsimp only at e4 e5
  rw [← e4]
  have : putS j (.ob (.excs n is)) s' = putS j (.ob (.excs n is)) (Classical.choose hx).2 := by
    have := congrArg (putS j (.ob (.excs n is))) e5
    simpa [putS, List.set_set] using this
  rw [this]
/-! ### a call of a def without names -/
section
variable {X : Cx} {cl : String → Addr} {W : WX} {e a b : Expr} {es : List Expr} {f g : M R} {fs : M (List R)} {pos : Pos} {p q : DSt → Flow}
theorem pe_callG0 {CX : CXT} {k : Nat} {f : Addr} {fd : FuncData} {ps : List Str} {sp : Sp} {E : L2.St → XK} {x : Str} {p : Pos} (F : FnG X.prog X.w X.K X.mg X.base CX k f fd ps sp) (hr : RoomG k X.A) (hg : Gl X x) (hm : X.mg x = some (.ref f)) (hk : PySem.W.keepIn X.K (.ref f) = true) (hb : Binds X.K fd ps []) (hx : ∀ σ, PassesAt CX X σ (E σ))
    (hdb : (x == ("__debug__" : Str)) = false := by decide) : PE X (.Call (.Name x p) [] [] pos) (tCallS sp E tNil) :=
  ⟨fun pins st σ H Q I h => wpAny_Call_Name_kw (ld_glob I hg hm (PySem.W.callWith_K0 I.kIn hk (run_G (us := []) F hr hb (hx σ) I .nil h)) hdb)⟩
theorem d_cal0 {F : List R → Pw → FRes} {k : Nat} {ps : List Str} {x : Str} {p : Pos} (h : Cal X.prog X.w X.K X.mg X.base cl x k ps F) (hr : RoomG k X.A) (hx : ∀ σ, PassesAt (L2.CX X.prog X.w) X σ (WE W σ)) (hg : Gl X x := by rfl) (hdb : (x == ("__debug__" : Str)) = false := by decide) :
    DE X cl W (.Call (.Name x p) [] [] pos) (fUser F fNil) := by
  obtain ⟨f, fd, ok, g, kp, b⟩ := h
  refine pe_imp (pe_callG0 ok hr hg g kp b hx hdb) fun σ H Q q => ?_
  obtain ⟨G, s, S, q⟩ := user_reads q
  exact q G H Stp.refl S [] .nil
end
/-! ### the loop -/
section
variable {X : Cx} {cl : String → Addr} {W : WX} {e a b c tg iter : Expr} {es : List Expr} {f g : M R} {fs : M (List R)} {fi : M (List PyData)} {pos : Pos} {p q : DSt → Flow}
theorem exall_snoc {K : PySem.W.Frag} {H : Hp} {n : String} {b d : Addr} {i : Int} (h1 : H b = some (excO b (.ref (clOf K n)) (some d))) (h2 : H d = some (.xd [(fieldOf n, .int i)])) : ∀ {vs : List V} {is : List Int}, ExAll K H n vs is → ExAll K H n (vs ++ [.ref b]) (is ++ [i])
  | _, _, .nil => .cons h1 h2 .nil
  | _, _, .cons a b t => .cons a b (exall_snoc h1 h2 t)
theorem sa_know {K : PySem.W.Frag} {G H : Hp} {s : DSt} {σ : L2.St} {l : Addr} {o : HO} (S : SA K G s σ H) (h : H l = some o) (hg : G l = none) (hn : ¬ Own s σ l) : SA K (upd G l o) s σ H := by
  have ex : Ex G (upd G l o) := fun a u e => by rw [upd_ne fun z => by subst z; rw [hg] at e; cases e]; exact e
  refine ⟨S.len, fun a u e => ?_, fun i sl e => ?_, S.inj, fun i a z => ?_, pwok_to S.pw (fun _ _ h _ => h) (fun _ _ h => h) fun a z => ?_, S.pne⟩
  · by_cases q : a = l
    · subst q; rw [upd_same] at e; cases e; exact h
    · rw [upd_ne q] at e; exact S.gh a u e
  · have q := S.slot i sl e
    cases sl with
    | no => trivial
    | val d => obtain ⟨v, e1, e2⟩ := q; exact ⟨v, e1, dp_mono ex _ _ e2⟩
    | raw v => exact q
    | ob o => obtain ⟨v, e1, e2⟩ := q; exact ⟨v, e1, ob_mono ex e2⟩
    | own es => obtain ⟨a, xs, e1, e2, e3⟩ := q; exact ⟨a, xs, e1, e2, dps_mono ex _ _ e3⟩
  · rw [upd_ne fun q => by subst q; exact hn (.inl ⟨i, z⟩)]; exact S.ownG i a z
  · rw [upd_ne fun q => by subst q; exact hn (.inr z)]; exact G_pown S.pw z
theorem s_forH {n : String} {j c : Nat} {S1 S2 : Stmt} {p1 p2 : DSt → Flow} {gg : TG} {bd : Bd} {js : List Nat} {x z : Expr} {ap cp epos : Pos} (hp : PassesOwn (model X.prog X.w) X.A X.env X.xe) (hc : X.calm = true) (hi : DI X cl W tg iter fi) (hg : PG X tg gg) (ho : GOk X.K gg bd js) (hb1 : DS X cl W S1 p1) (hb2 : DS X cl W S2 p2)
    (hx : PE X x (tVar j)) (hz : PE X z (tVar c))
    (hbase : attributeBase x "append" X.env (eval x X.env) = eval x X.env := by rfl)
    (hfew : ((backTo cp (starEach [z] X.env)).all (fun x => !x.1) && (backToKw cp (keywordEach [] X.env)).all (fun x => x.1.isSome) && decide (([z] : List Expr).length + ([] : List Keyword).length + (if ([] : List Keyword).isEmpty then 0 else 1) < 30)) = true := by rfl)
    (hline : (ap.endLine == cp.line) = true := by rfl) (hs1 : starEach [z] X.env = (false, eval z X.env) :: starEach [] X.env := by rfl) (hplain : (backTo cp (starEach [] X.env)).any (·.1) = false := by rfl)
    (hsw : swapsWith (.Call (.Attribute x "append" ap) [z] [] cp) none epos.line X.env = pure false := by rfl)
    (hs : ∀ x, foldedSetIterable iter X.env x = pure x := by intro _; rfl) :
    DS X cl W (.For tg iter [S1, S2, .Expr (.Call (.Attribute x "append" ap) [z] [] cp) epos] [] pos) (fForH j c n fi bd p1 p2) := by
  have hap := ps_expr (pe_bm PySem.F.plainAttrs_list PySem.F.slot_list_append PySem.F.type_list_append mt_append hx (pa_cons hz pa_nil hs1) hbase hfew hline hs1 hplain) hsw
  refine ps_imp (ps_for hp hc hi hg (pss_cons hb1 (pss_cons hb2 (pss_cons hap pss_nil))) hs) fun D σ H ⟨G, s, S, h⟩ => ⟨G, s, S, out_mono (fout_res h) fun ds G1 s1 H1 st1 S1 k J hJ => ?_⟩
  have k := fout_shift st1 k
  unfold kForH at k
  split at k
  rotate_left
  · exact k.elim
  rename_i h0
  split at k
  rotate_left
  · exact k.elim
  rename_i hex
  obtain ⟨l, xs0, el, hl0, hd0⟩ := own_at S1 h0
  cases hd0
  have run := Classical.choose_spec hex l
  obtain ⟨r, hr⟩ : ∃ r, Classical.choose hex = r := ⟨_, rfl⟩
  rw [hr] at run k
  have jl : j < s1.d.length := (List.getElem?_eq_some_iff.mp h0).1
  have own1 : OwnAt s1 σ j l := ⟨⟨_, h0⟩, el⟩
  have gl : G1 l = none := S1.ownG j l own1
  have es : σ.set j (some (V.ref l)) = σ := by
    refine List.ext_getElem? fun i => ?_
    by_cases q : i = j
    · subst q
      rw [List.getElem?_set_self (by rw [← S1.len]; exact jl), el]
    · rw [List.getElem?_set_ne (Ne.symm q)]
  have S1' : SA X.K G1 (putS j (.raw (.ref l)) s1) σ H1 := by
    have := put_ok (x := .raw (.ref l)) (v := .ref l) S1 jl rfl fun _ _ z => by cases z
    rw [es] at this
    exact this
  have at1 : ∀ i, i ≠ j → (putS j (.raw (.ref l)) s1).d[i]? = s1.d[i]? := fun i hi => by simp [putS, List.getElem?_set_ne (Ne.symm hi)]
  have atj : (putS j (.raw (.ref l)) s1).d[j]? = some (.raw (.ref l)) := by simp [putS, jl]
  have ownB : ∀ b, Own (putS j (.raw (.ref l)) s1) σ b → Own s1 σ b ∧ b ≠ l := fun b z => by
    rcases z with ⟨i, ⟨es', z1⟩, z2⟩ | z
    · by_cases q : i = j
      · subst q; rw [atj] at z1; cases z1
      · rw [at1 i q] at z1
        refine ⟨.inl ⟨i, ⟨es', z1⟩, z2⟩, fun w => q ?_⟩
        subst w
        exact S1.inj i j b ⟨⟨es', z1⟩, z2⟩ own1
    · exact ⟨.inr z, fun w => by subst w; exact S1.pne j b own1 z⟩
  have st0 : Stp G1 s1 σ H1 G1 (putS j (.raw (.ref l)) s1) σ H1 := ⟨Ex.refl G1, fun _ _ h _ => ⟨h, rfl⟩, fun b z => .inl (ownB b z).1, fun _ h => h, fun _ h => h⟩
  refine ⟨fun i m σ2 H2 => ∃ G2 s2 is vs, SA X.K G2 s2 σ2 H2 ∧ Stp G1 s1 σ H1 G2 s2 σ2 H2 ∧ H2 l = some (.lst vs) ∧ G2 l = none ∧ ¬ Own s2 σ2 l ∧ s2.d[j]? = some (.raw (.ref l)) ∧ ExAll X.K G2 n vs is ∧ m = ds.length - i ∧ i ≤ ds.length ∧ runH j c n bd p1 p2 (ds.drop i) is s2 = some (r.1, putS j (.raw (.ref l)) r.2),
    ⟨ds.length, G1, _, [], [], S1', st0, hl0, gl, fun z => (ownB l z).2 rfl, atj, .nil, by simp, Nat.zero_le _, by simpa using run⟩, ?_⟩
  rintro i m σ2 H2 ⟨G2, s2, is, vs, S2, st2, hl2, gl2, nl2, sj2, ex2, rfl, hi, k2⟩
  obtain ⟨j1, j2⟩ := hJ G2 s2 σ2 H2 st2.ex S2 i
  by_cases hl : i < ds.length
  · obtain ⟨go, yl⟩ := j1 ds[i] (List.getElem?_eq_getElem hl)
    rw [List.drop_eq_getElem_cons hl] at k2
    refine .inr ⟨go, fun σ3 H3 => ∃ G3 s3 is vs, SA X.K G3 s3 σ3 H3 ∧ Stp G1 s1 σ H1 G3 s3 σ3 H3 ∧ H3 l = some (.lst vs) ∧ G3 l = none ∧ ¬ Own s3 σ3 l ∧ s3.d[j]? = some (.raw (.ref l)) ∧ ExAll X.K G3 n vs is ∧ runH j c n bd p1 p2 (ds.drop (i + 1)) is s3 = some (r.1, putS j (.raw (.ref l)) r.2), fun σ3 H3 ⟨G3, s3, is, vs, a1, a2, a3, a4, a5, a6, a7, a8⟩ => ⟨ds.length - (i + 1), by omega, G3, s3, is, vs, a1, a2, a3, a4, a5, a6, a7, rfl, hl, a8⟩, fun x H3 y => ?_⟩
    obtain ⟨G3, st3, S3, rp⟩ := yl x H3 y
    unfold runH at k2
    cases q : bd ds[i] s2 with
    | none => rw [q] at k2; cases k2
    | some s4 =>
      rw [q] at k2
      refine ho x ds[i] G3 s2 σ2 H3 s4 _ S3 rp q fun σ4 l4 n4 m4 w4 st4 S4 => ⟨G3, s4, S4, ?_⟩
      dsimp only at k2
      cases z1 : p1 s4 with
      | brk s5 => rw [z1] at k2; cases k2
      | cnt s5 => rw [z1] at k2; cases k2
      | ret r s5 => rw [z1] at k2; cases k2
      | err x s5 => rw [z1] at k2; cases k2
      | stuck => rw [z1] at k2; cases k2
      | next s5 =>
      rw [z1] at k2
      intro G5 σ5 H5 st5 S5
      refine ⟨G5, s5, S5, ?_⟩
      dsimp only at k2
      cases z2 : p2 s5 with
      | brk s6 => rw [z2] at k2; cases k2
      | cnt s6 => rw [z2] at k2; cases k2
      | ret r s6 => rw [z2] at k2; cases k2
      | err x s6 => rw [z2] at k2; cases k2
      | stuck => rw [z2] at k2; cases k2
      | next s6 =>
      rw [z2] at k2
      intro G6 σ6 H6 st6 S6
      dsimp only at k2
      split at k2
      rotate_left
      · cases k2
      rename_i m' i' ec
      split at k2
      rotate_left
      · cases k2
      rename_i hh
      obtain ⟨rfl, hlt, hj6⟩ := hh
      have stA := ((st3.trans st4).trans st5).trans st6
      obtain ⟨hl6, gl6⟩ := stA.keep l _ hl2 nl2
      have nl6 : ¬ Own s6 σ6 l := fun z => (stA.own l z).elim nl2 fun z => by rw [hl2] at z; cases z
      have sj6 : s6.d[j]? = some (.raw (.ref l)) := by rw [hj6]; exact sj2
      have ej6 : σ6[j]? = some (some (.ref l)) := by
        have := S6.slot j _ sj6
        have e : (σ6[j]?).join = some (V.ref l) := this
        cases w : σ6[j]? with
        | none => rw [w] at e; cases e
        | some o => rw [w] at e; simp at e; rw [e]
      obtain ⟨v, ev, b, d, rfl, hb, dd, u, e1, e2, e3⟩ := S6.slot c _ ec
      cases e3
      have ec6 : σ6[c]? = some (some (.ref b)) := by
        cases w : σ6[c]? with
        | none => rw [w] at ev; cases ev
        | some o => rw [w] at ev; simp at ev; rw [ev]
      cases e1
      have ex6 := exall_mono stA.ex ex2
      refine ⟨.ref l, ej6, .inl ⟨rfl, _, .of hl6⟩, .ref b, ec6, l, vs, .ref b, rfl, rfl, hl6, by rw [exall_len ex2]; exact hlt, ?_⟩
      have neB : ∀ a o, G6 a = some o → a ≠ l := fun a o w z => by subst z; rw [gl6, gl2] at w; cases w
      refine ⟨G6, s6, is ++ [i'], vs ++ [.ref b], sa_write S6 (gl6.trans gl2) nl6 (fun φ w => by rw [hl6] at w; cases w), ?_, upd_same, gl6.trans gl2, nl6, sj6, exall_snoc hb e2 ex6, k2⟩
      have stB := st2.trans stA
      refine ⟨stB.ex, fun a o w nw => ?_, stB.own, fun a w => ?_, stB.pw⟩
      · have ne : a ≠ l := fun z => nw (by subst z; exact .inl ⟨j, own1⟩)
        rw [upd_ne ne]
        exact stB.keep a o w nw
      · by_cases ne : a = l
        · subst ne; rw [upd_same]; simp
        · rw [upd_ne ne]; exact stB.dom a w
  · have e : i = ds.length := by omega
    subst e
    rw [List.drop_length] at k2
    refine .inl ⟨j2 (Nat.le_refl _), ?_⟩
    have k2 := Option.some.inj k2
    have ei : is = r.1 := (Prod.mk.inj k2).1
    have e2 : s2 = putS j (.raw (.ref l)) r.2 := (Prod.mk.inj k2).2
    have SK := sa_know S2 hl2 gl2 nl2
    have exK : Ex G2 (upd G2 l (.lst vs)) := fun a u e => by rw [upd_ne fun z => by subst z; rw [gl2] at e; cases e]; exact e
    have stK : Stp G1 s1 σ H1 (upd G2 l (.lst vs)) s2 σ2 H2 := ⟨st2.ex.trans exK, fun a o w nw => by
      obtain ⟨w1, w2⟩ := st2.keep a o w nw
      exact ⟨w1, by rw [upd_ne fun z => nw (by subst z; exact .inl ⟨j, own1⟩)]; exact w2⟩, st2.own, st2.dom, st2.pw⟩
    have jl2 : j < s2.d.length := (List.getElem?_eq_some_iff.mp sj2).1
    have ej2 : σ2[j]? = some (some (.ref l)) := by
      have e : (σ2[j]?).join = some (V.ref l) := S2.slot j _ sj2
      cases w : σ2[j]? with
      | none => rw [w] at e; cases e
      | some o => rw [w] at e; simp at e; rw [e]
    have es2 : σ2.set j (some (V.ref l)) = σ2 := by
      refine List.ext_getElem? fun i => ?_
      by_cases q : i = j
      · subst q
        rw [List.getElem?_set_self (by rw [← S2.len]; exact jl2), ej2]
      · rw [List.getElem?_set_ne (Ne.symm q)]
    have hob : ObRel X.K (upd G2 l (.lst vs)) (.ref l) (.excs n is) := ⟨l, vs, rfl, upd_same, exall_mono exK ex2⟩
    have S3 := put_ok (x := .ob (.excs n is)) (v := .ref l) SK jl2 ⟨_, rfl, hob⟩ fun _ _ z => by cases z
    have st3 := put_stp (x := .ob (.excs n is)) (v := .ref l) SK stK jl2 fun _ _ z => by cases z
    rw [es2] at S3 st3
    have e4 : putS j (.ob (.excs n is)) s2 = putS j (.ob (.excs n r.1)) r.2 := by rw [ei, e2]; simp [putS, List.set_set]
    rw [e4] at S3 st3
    exact k _ _ _ st3 S3
end
/-! ### [x.f for x in e if x is not None] -/
section
variable {X : Cx} {cl : String → Addr} {W : WX} {e a b c x y iter : Expr} {es : List Expr} {f g : M R} {fs : M (List R)} {pos : Pos} {n : String} {x : Str}
theorem fldsN_reads {K : PySem.W.Frag} {mg : Str → Option Value} {vs : List Nat} {i : Nat} (T : ExG K mg n) (hno : PySem.W.findIn K (.ref (clOf K n)) (fieldOf n) = some none) (hj : i ∈ vs) {σ : L2.St} {H : Hp} {Q : VK} (q : tD K cl W (fFlds n i f) σ H Q) :
    tLc (iSeq K (tD K cl W f)) (gName i) (tB (tNotN (tVar i))) (tXfT K (fieldOf n) (tVar i)) vs σ H Q := by
  obtain ⟨G, s, S, q⟩ := q
  refine ⟨G, s, S, out_mono (out_bind q) fun r G1 s1 H1 st1 S1 k v rr => ?_⟩
  split at k
  rotate_left
  · exact k.elim
  rename_i m is
  split at k
  rotate_left
  · exact k.elim
  rename_i hh
  obtain ⟨rfl, hz, hi⟩ := hh
  obtain ⟨a, us, rfl, hga, hall⟩ := rr
  have hHa := S1.gh _ _ hga
  refine .inl ⟨a, rfl, ⟨us, .of hHa⟩, fun D hD => ?_⟩
  have nDa : a ≠ D := fun z => by rw [z, hD] at hHa; cases hHa
  have hlu := exall_len hall
  have keep : ∀ {b : Addr} {o u : HO}, G1 b = some o → upd H1 D u b = some o := fun {b o u} e => by
    have e2 := S1.gh _ _ e
    rw [upd_ne (ne_of_none e2 hD)]
    exact e2
  refine ⟨fun j l H2 => H2 = upd H1 D (.lst ((is.take j).map V.int)) ∧ l = is.length - j ∧ j ≤ is.length, ⟨is.length, by simp, by simp, Nat.zero_le _⟩, ?_⟩
  rintro j l H2 ⟨rfl, rfl, hj2⟩
  have hl : SqL K (upd H1 D (.lst ((is.take j).map V.int))) a us := .of (keep hga)
  by_cases hlt : j < is.length
  · have hju : j < us.length := by rw [hlu]; exact hlt
    refine .inr ⟨⟨us, us[j], hl, by simp [hju]⟩, fun H3 => H3 = upd H1 D (.lst ((is.take (j + 1)).map V.int)), fun H3 e => ⟨is.length - (j + 1), by omega, e, rfl, hlt⟩, fun x H3 ⟨e3, y⟩ => ?_⟩
    subst e3
    obtain ⟨b, d, z, ex, ez, h1, h2⟩ := exall_get hall (y us hl)
    subst ex
    have hlen : i < (wipe σ vs).length := by rw [wipe_length, ← S1.len]; exact hi
    refine ⟨(wipe_same (by simp) fun k hk => by rw [List.getElem?_set_ne (by rintro rfl; exact hk hj)]).trans (wipe_wipe σ vs), ?_⟩
    refine ⟨.ref b, List.getElem?_set_self hlen, true, rfl, ?_⟩
    show tXfT K (fieldOf m) (tVar i) _ _ _
    refine ⟨.ref b, List.getElem?_set_self hlen, b, _, d, _, .int z, rfl, keep h1, xfc_of T.c, hno, keep h2, by simp [List.lookup], (is.take j).map V.int, upd_same, ?_, ?_⟩
    · have hz : is.length ≤ sizeLine := hz
      simp only [List.length_map, List.length_take]
      omega
    · have e5 : is.take (j + 1) = is.take j ++ [z] := by rw [List.take_succ, ez]; rfl
      rw [e5]
      funext c
      by_cases hc : c = D
      · subst hc; simp [upd_same]
      · rw [upd_ne hc, upd_ne hc, upd_ne hc]
  · have e : j = is.length := by omega
    subst e
    refine .inl ⟨⟨us, hl, by rw [hlu]; exact Nat.le_refl _⟩, ?_⟩
    rw [List.take_length]
    obtain ⟨st2, S2, rr2⟩ := new_list (p := D) (vs := is.map V.int) (ds := is.map PyData.int) S1 hD (rp_ints is) st1.dom
    exact k _ _ st2 S2 _ rr2
theorem d_fldsN {apos epos tpos qpos cn spos : Pos} {jn : _} {scope : Scope} {own : List (Str × Nat)} {g : Str} {i : Nat} (hc : X.calm = true) (hN : X.N.Nodup) (he : DE X cl W iter f) (ok : BlkOk X.N X.env.scope scope own) (hj : i ∈ own.map (·.2)) (T : ExG X.K X.mg n) (hno : PySem.W.findIn X.K (.ref (clOf X.K n)) (fieldOf n) = some none) (hf : fieldOf n = g)
    (hg : ∀ (s : Shared) (H : Hp) (C : Addr) (cl : List (Str × Addr)) (fp : List Addr), PG (X.blk s H scope (compEnvC scope cl C X.env) fp) (.Name x tpos) (gName i)) 
    (hv : ∀ (s : Shared) (H : Hp) (C : Addr) (clo : List (Str × Addr)) (fp : List Addr), PE (X.blk s H scope (compEnvC scope clo C X.env) fp) (.Name x epos) (tVar i))
    (hq : ∀ (s : Shared) (H : Hp) (C : Addr) (clo : List (Str × Addr)) (fp : List Addr), PE (X.blk s H scope (compEnvC scope clo C X.env) fp) (.Name x qpos) (tVar i))
    (hb : ∀ (s : Shared) (H : Hp) (C : Addr) (clo : List (Str × Addr)) (fp : List Addr), attributeBase (.Name x epos) g (compEnvC scope clo C X.env) (eval (.Name x epos) (compEnvC scope clo C X.env)) = eval (.Name x epos) (compEnvC scope clo C X.env)) (hs : ∀ x, foldedSetIterable iter X.env x = pure x := by intro _; rfl) :
    DE X cl W (.ListComp (.Attribute (.Name x epos) g apos) [⟨.Name x tpos, iter, [.Compare (.Name x qpos) [.IsNot] [.Constant .none jn cn] spos], 0⟩] scope pos) (fFlds n i f) := by
  subst hf
  exact pe_imp (pe_lc hc hN (pi_seq he) ok hg (fun s H C clo fp => pts_one (pt_cmp (pc_notN (hq s H C clo fp)))) (fun s H C clo fp => pe_xfT (hv s H C clo fp) (hb s H C clo fp)) hs) fun σ H Q q => fldsN_reads T hno hj q
end
section
variable {s : DSt} {f : M R}
@[simp] theorem x_forH {j c : Nat} {n : String} {fi : M (List PyData)} {bd : Bd} {p1 p2 : DSt → Flow} : fForH j c n fi bd p1 p2 s = onRes (fi s) (kForH j c n bd p1 p2) := Eq.trans rfl rfl
end
end DL

/-! DL90: a list and a dict of the top: a text in them, FORMS[text] -/
noncomputable section
namespace DL
open PySem L2 PyProof.Rows
open Evl (Ex)
def GLst (K : PySem.W.Frag) (mg : Str → Option Value) (x : Str) (ks : List Str) : Prop := ∃ a : Addr, mg x = some (.ref a) ∧ ∀ H, SqL K H a (ks.map V.str)
def KTI (K : PySem.W.Frag) (b : Addr) (ns : List Int) : Prop := ∃ (o : Obj) (its : Array Value) (n : Nat), K.lookup b = some o ∧ o.cls = .type "tuple" ∧ o.data = .seq its n ∧ its.size ≤ sizeLine ∧ Vals (ns.map V.int) its.toList
def GDk (K : PySem.W.Frag) (w : World) (mg : Str → Option Value) (x : Str) (kvs : List (Str × List Int)) : Prop :=
  ∃ (a : Addr) (es : Array DictEntry) (n : Nat), mg x = some (.ref a) ∧ KDict K w a es n ∧ ∀ k : Str, (∀ ns, kvs.lookup k = some ns → ∃ b, PySem.W.nsIn K a k = some (some (.ref b)) ∧ KTI K b ns) ∧ (kvs.lookup k = none → PySem.W.nsIn K a k = some none)
theorem glst_mk {K : PySem.W.Frag} {h : Heap} {mg : Str → Option Value} {x : Str} {a : Addr} {its : Array Value} {n : Nat} {ks : List Str} (KX : K.In h) (G : h.Ns mainGlobals mg) (h1 : PySem.W.nsIn K mainGlobals x = some (some (.ref a))) (h2 : K.lookup a = some ⟨.type "list", none, .seq its n, #[]⟩) (hz : its.size ≤ 100) (hv : Vals (ks.map V.str) its.toList) : GLst K mg x ks :=
  ⟨a, PySem.W.mg_of KX G h1, fun H => .inr ⟨_, its, n, h2, rfl, rfl, rfl, by rw [sizeLine_eq]; omega, hv⟩⟩
theorem kti_mk {K : PySem.W.Frag} {a : Addr} {its : Array Value} {n : Nat} {ns : List Int} (h : K.lookup a = some ⟨.type "tuple", none, .seq its n, #[]⟩) (hz : its.size ≤ 100) (hv : Vals (ns.map V.int) its.toList) : KTI K a ns :=
  ⟨_, its, n, h, rfl, rfl, by rw [sizeLine_eq]; omega, hv⟩
theorem gdk_mk {K : PySem.W.Frag} {w : World} {h : Heap} {mg : Str → Option Value} {x : Str} {a : Addr} {es : Array DictEntry} {n : Nat} {kvs : List (Str × List Int)} (KX : K.In h) (G : h.Ns mainGlobals mg) (h1 : PySem.W.nsIn K mainGlobals x = some (some (.ref a))) (h2 : K.lookup a = some ⟨.type "dict", none, .dict es n, #[]⟩)
    (h3 : es.toList.map He.keyOf = He.keysIn w.params (kvs.map (·.1))) (h4 : (a == sysModules) = false) (h5 : ∀ p ∈ kvs, ∃ b, PySem.W.nsIn K a p.1 = some (some (.ref b)) ∧ KTI K b p.2) : GDk K w mg x kvs := by
  refine ⟨a, es, n, PySem.W.mg_of KX G h1, ⟨h2, He.keysLit_of h3, h4⟩, fun k => ⟨fun i e => ?_, fun e => ?_⟩⟩
  · have := PySem.mem_of_lookup e
    exact h5 _ this
  · have nk : k ∉ kvs.map (·.1) := fun z => by
      obtain ⟨p, hp, rfl⟩ := List.mem_map.mp z
      have : ∀ (l : List (Str × List Int)), p ∈ l → l.lookup p.1 ≠ none := by
        intro l
        induction l with
        | nil => intro h; simp at h
        | cons q r ih =>
          intro h e
          rw [List.lookup_cons] at e
          split at e
          · cases e
          · rename_i hq
            rcases List.mem_cons.mp h with rfl | h
            · simp at hq
            · exact ih h e
      exact this _ hp e
    obtain ⟨g1, g2⟩ := find_not h3 nk
    unfold PySem.W.nsIn
    rw [h2]
    dsimp only
    rw [g1, g2]
    rfl
/-! ### text in ..; text not in .. -/
def kInK (neg : Bool) (ks : List Str) (r : R) (s : DSt) : Res R := match look r s with
  | some (.str z) => .ok (.val (.bool (if neg then !decide (z ∈ ks) else decide (z ∈ ks)))) s
  | _ => .stuck
@[simp] theorem y_kInK (neg : Bool) (ks : List Str) (r : R) (s : DSt) : kInK neg ks r s = (match look r s with
  | some (.str z) => .ok (.val (.bool (if neg then !decide (z ∈ ks) else decide (z ∈ ks)))) s
  | _ => .stuck) := Eq.trans rfl rfl
def fInK (neg : Bool) (ks : List Str) (f : M R) : M R := bnd f (kInK neg ks)
@[simp] theorem x_inK {neg : Bool} {ks : List Str} {f : M R} {s : DSt} : fInK neg ks f s = (f s).bind (kInK neg ks) := Eq.trans rfl rfl
theorem inV_str {z : Str} {ks : List Str} : inV (.str z) (ks.map V.str) = decide (z ∈ ks) := by
  unfold inV
  rw [List.any_map]
  induction ks with
  | nil => rfl
  | cons k ks ih =>
    rw [List.any_cons, ih]
    have : (((fun y => eqV y (V.str z)) ∘ V.str) k) = decide (k = z) := by
      show (k == z) = _
      exact Bool.eq_iff_iff.mpr (by simp)
    rw [this]
    by_cases h : k = z
    · subst h; simp
    · have h' : ¬ z = k := fun e => h e.symm
      simp [h, h']
theorem flat_strs {ks : List Str} : (ks.map V.str).all flatV = true := by
  rw [List.all_map]
  exact List.all_eq_true.mpr fun _ _ => rfl
section
variable {X : Cx} {cl : String → Addr} {W : WX} {a : Expr} {f : M R} {pos : Pos}
theorem t_inL {x : Str} {ks : List Str} {p : Pos} (g : GLst X.K X.mg x ks) (hg : Gl X x) (ha : DE X cl W a f) (hx : (x == ("__debug__" : Str)) = false := by decide) (hm : behindInMarks .In (.Name x p) = false := by rfl) :
    DT X cl W (.Compare a [.In] [.Name x p] pos) (fB (fInK false ks f)) := by
  obtain ⟨b, m, hq⟩ := g
  have rd : ∀ {σ : L2.St} {H : Hp} {Q : VK}, tD X.K cl W (fInK false ks f) σ H Q → tOp (rIn X.K false) (tD X.K cl W f) (tC (.ref b)) σ H Q := fun {σ H Q} ⟨G, s, S, q⟩ => by
    refine ⟨G, s, S, out_mono (out_bind q) fun r G1 s1 H1 st1 S1 k v rr => ?_⟩
    unfold kInK at k
    split at k
    · rename_i z e
      obtain rfl := dq_str (look_q S1 rr e)
      refine ⟨b, ks.map V.str, rfl, .inl (hq _), rfl, flat_strs, ?_⟩
      have e2 : (if false = true then !inV (.str z) (ks.map V.str) else inV (.str z) (ks.map V.str)) = (if false = true then !decide (z ∈ ks) else decide (z ∈ ks)) := by rw [inV_str]
      rw [e2]
      exact k _ _ Stp.refl S1 _ (.bl _)
    · exact k.elim
  exact pt_imp (pt_cmpR op_in_seq ha (pe_glob (v := .ref b) hg m rfl hx) hm) fun σ H Q q => rd (test_of q)
theorem look_mem {kvs : List (Str × List Int)} {z : Str} : (kvs.lookup z).isSome = decide (z ∈ kvs.map (·.1)) := by
  induction kvs with
  | nil => rfl
  | cons p kvs ih =>
    rw [List.lookup_cons]
    by_cases h : z = p.1
    · subst h; simp
    · have : (z == p.1) = false := by simpa using h
      rw [this]
      simp only [ih, List.map_cons, List.mem_cons, h, false_or]
theorem nsIn_is {K : PySem.W.Frag} {a : Addr} {kvs : List (Str × List Int)} {z : Str} (hk : (∀ ns, kvs.lookup z = some ns → ∃ b, PySem.W.nsIn K a z = some (some (.ref b)) ∧ KTI K b ns) ∧ (kvs.lookup z = none → PySem.W.nsIn K a z = some none)) : ∃ r : Option Value, PySem.W.nsIn K a z = some r ∧ r.isSome = decide (z ∈ kvs.map (·.1)) := by
  rw [← look_mem]
  cases q : kvs.lookup z with
  | none => exact ⟨none, hk.2 q, rfl⟩
  | some ns => obtain ⟨b, h, _⟩ := hk.1 ns q; exact ⟨_, h, rfl⟩
theorem t_ninD {x : Str} {kvs : List (Str × List Int)} {ks : List Str} {p : Pos} (g : GDk X.K X.w X.mg x kvs) (hg : Gl X x) (ha : DE X cl W a f) (hx : (x == ("__debug__" : Str)) = false := by decide) (hm : behindInMarks .NotIn (.Name x p) = false := by rfl) (hk : kvs.map (·.1) = ks := by rfl) :
    DT X cl W (.Compare a [.NotIn] [.Name x p] pos) (fB (fInK true ks f)) := by
  subst hk
  obtain ⟨b, es, n, m, D, hq⟩ := g
  have rd : ∀ {σ : L2.St} {H : Hp} {Q : VK}, tD X.K cl W (fInK true (kvs.map (·.1)) f) σ H Q → tOp (fun x y H Q => ∃ (z : Str) (r : Option Value), x = .str z ∧ y = .ref b ∧ PySem.W.nsIn X.K b z = some r ∧ Q (.bl (!r.isSome)) H) (tD X.K cl W f) (tC (.ref b)) σ H Q := fun {σ H Q} ⟨G, s, S, q⟩ => by
    refine ⟨G, s, S, out_mono (out_bind q) fun r G1 s1 H1 st1 S1 k v rr => ?_⟩
    unfold kInK at k
    split at k
    · rename_i z e
      obtain rfl := dq_str (look_q S1 rr e)
      obtain ⟨r0, e1, e2⟩ := nsIn_is (hq z)
      refine ⟨z, r0, rfl, rfl, e1, ?_⟩
      rw [e2]
      exact k _ _ Stp.refl S1 _ (.bl _)
    · exact k.elim
  exact pt_imp (pt_cmpR (op_notIn_kd D) ha (pe_glob (v := .ref b) hg m rfl hx) hm) fun σ H Q q => rd (test_of q)
end
/-! ### FORMS[text] -/
def kGlIx (kvs : List (Str × List Int)) (r : R) (s : DSt) : Res R := match look r s with
  | some (.str z) => (match kvs.lookup z with | some ns => .ok (.val (.tuple (ns.map .int))) s | none => .stuck)
  | _ => .stuck
@[simp] theorem y_kGlIx (kvs : List (Str × List Int)) (r : R) (s : DSt) : kGlIx kvs r s = (match look r s with
  | some (.str z) => (match kvs.lookup z with | some ns => .ok (.val (.tuple (ns.map .int))) s | none => .stuck)
  | _ => .stuck) := Eq.trans rfl rfl
def fGlIx (kvs : List (Str × List Int)) (f : M R) : M R := bnd f (kGlIx kvs)
@[simp] theorem x_glIx {kvs : List (Str × List Int)} {f : M R} {s : DSt} : fGlIx kvs f s = (f s).bind (kGlIx kvs) := Eq.trans rfl rfl
end DL

/-! DL91: the rule for FORMS[text]; it stands over the DL1 that knows tuples of the top -/
noncomputable section
namespace DL
open PySem L2 PyProof.Rows
theorem rps_ints {K : PySem.W.Frag} {G : Hp} : ∀ {ns : List Int}, RpAll K G (ns.map V.int) (ns.map PyData.int)
  | [] => .nil
  | _ :: _ => .cons (.int _) rps_ints
section
variable {X : Cx} {cl : String → Addr} {W : WX} {a : Expr} {f : M R} {pos : Pos}
theorem d_glIx {x : Str} {kvs : List (Str × List Int)} {p : Pos} (g : GDk X.K X.w X.mg x kvs) (hg : Gl X x) (ha : DE X cl W a f) (hs : PlainIx a) (hx : (x == ("__debug__" : Str)) = false := by decide) :
    DE X cl W (.Subscript (.Name x p) a pos) (fGlIx kvs f) := by
  obtain ⟨b, es, n, m, D, hq⟩ := g
  refine pe_imp (pe_ix ix_kdict (pe_glob (v := .ref b) hg m rfl hx) ha hs) fun σ H Q ⟨G, s, S, q⟩ => ?_
  refine ⟨G, s, S, out_mono (out_bind q) fun r G1 s1 H1 st1 S1 k v rr => ?_⟩
  unfold kGlIx at k
  split at k
  · rename_i z e
    obtain rfl := dq_str (look_q S1 rr e)
    split at k
    · rename_i ns e2
      obtain ⟨c, e3, kt⟩ := (hq z).1 ns e2
      exact ⟨b, z, .ref c, rfl, rfl, ⟨es, n, .ref c, D.at_, D.lit, e3, rfl⟩, k _ _ Stp.refl S1 _ (.ktup kt rps_ints)⟩
    · exact k.elim
  · exact k.elim
end
end DL

/-! DL92: L = [[]]; for w in e: if w == ..: L.append([]) else: L[-1].append(int(w)) -/
noncomputable section
namespace DL
open PySem L2 PyProof.Rows
open Evl (Ex)
def cutW (sep : Str) : List Str → List (List Int) → List Int → Option (List (List Int) × List Int)
  | [], dl, ns => some (dl, ns)
  | w :: ws, dl, ns => if w = sep then cutW sep ws (dl ++ [ns]) [] else match intTO [.str w] with
    | some (.val (.int n)) => cutW sep ws dl (ns ++ [n])
    | _ => none
def iLs (ns : List Int) : PyData := .list (ns.map .int)
def putL (i : Nat) : List Str → DSt → DSt
  | [], s => s
  | w :: ws, s => putL i ws (putS i (.val (.str w)) s)
def isNoS : Option Sl → Bool
  | some .no => true
  | _ => false
def kCuts (sep : Str) (j i : Nat) (ds : List PyData) (s : DSt) : Flow := match strsD ds with
  | some ws => (match cutW sep ws [] [] with
    | some r => if j < s.d.length ∧ i < s.d.length ∧ i ≠ j ∧ ltS (ws.length + 1) ∧ isNoS (s.d[j]?) = true then .next (putS j (.own ((r.1 ++ [r.2]).map iLs)) (putL i ws s)) else .stuck
    | none => .stuck)
  | none => .stuck
def fCuts (sep : Str) (j i : Nat) (fi : M (List PyData)) : DSt → Flow := fun s => if j < s.d.length then onRes (fi (putS j .no s)) (kCuts sep j i) else .stuck
section
variable {K : PySem.W.Frag} {l b : Addr} {vs : List V} {dl : List (List Int)} {ns : List Int} {G G' G0 H H' H0 : Hp} {s s' s0 : DSt} {σ σ' σ0 : L2.St}
structure Cu (K : PySem.W.Frag) (l b : Addr) (vs : List V) (dl : List (List Int)) (ns : List Int) (G : Hp) (s : DSt) (σ : L2.St) (H : Hp) : Prop where
  S : SA K G s σ H
  hl : H l = some (.lst (vs ++ [.ref b]))
  hb : H b = some (.lst (ns.map .int))
  gl : G l = none
  gb : G b = none
  nl : ¬ Own s σ l
  nb : ¬ Own s σ b
  ne : l ≠ b
  dn : RpAll K G vs (dl.map iLs)
theorem Cu.shift (C : Cu K l b vs dl ns G s σ H) (st : Stp G s σ H G' s' σ' H') (S' : SA K G' s' σ' H') : Cu K l b vs dl ns G' s' σ' H' := by
  obtain ⟨h1, g1⟩ := st.keep l _ C.hl C.nl
  obtain ⟨h2, g2⟩ := st.keep b _ C.hb C.nb
  exact ⟨S', h1, h2, g1.trans C.gl, g2.trans C.gb, fun z => (st.own l z).elim C.nl (fun z => by rw [C.hl] at z; cases z), fun z => (st.own b z).elim C.nb (fun z => by rw [C.hb] at z; cases z), C.ne, dps_mono st.ex _ _ C.dn⟩
theorem Cu.addI (C : Cu K l b vs dl ns G s σ H) (n : Int) : Cu K l b vs dl (ns ++ [n]) G s σ (upd H b (.lst (ns.map .int ++ [.int n]))) := by
  refine ⟨sa_write C.S C.gb C.nb (fun φ w => by rw [C.hb] at w; cases w), by rw [upd_ne C.ne]; exact C.hl, ?_, C.gl, C.gb, C.nl, C.nb, C.ne, C.dn⟩
  rw [upd_same, List.map_append]
  rfl
theorem intsRp {K : PySem.W.Frag} {G : Hp} : ∀ {ns : List Int}, RpAll K G (ns.map V.int) (ns.map PyData.int)
  | [] => .nil
  | _ :: _ => .cons (.int _) intsRp
theorem rps_snoc {K : PySem.W.Frag} {G : Hp} {v : V} {d : PyData} (h : Rp K G v d) : ∀ {vs : List V} {ds : List PyData}, RpAll K G vs ds → RpAll K G (vs ++ [v]) (ds ++ [d])
  | [], [], .nil => .cons h .nil
  | _ :: _, _ :: _, .cons a t => .cons a (rps_snoc h t)
theorem Cu.addL (C : Cu K l b vs dl ns G s σ H) {c : Addr} (hc : H c = none) : Cu K l c (vs ++ [.ref b]) (dl ++ [ns]) [] (upd G b (.lst (ns.map .int))) s σ (upd (upd H c (.lst [])) l (.lst (vs ++ [.ref b] ++ [.ref c]))) := by
  have cl : l ≠ c := fun z => by have := C.hl; rw [z, hc] at this; cases this
  have cb : b ≠ c := fun z => by have := C.hb; rw [z, hc] at this; cases this
  have gc : G c = none := Evl.fresh_back C.S.gh hc
  have nc : ¬ Own s σ c := fun z => by
    obtain ⟨xs, e, _⟩ := C.S.ownS z
    rw [hc] at e; cases e
  have S1 := (new_list (H0 := H) C.S hc (.nil : RpAll K G [] []) (fun _ h => h)).2.1
  have hl1 : upd H c (.lst []) l = some (.lst (vs ++ [.ref b])) := by rw [upd_ne cl]; exact C.hl
  have S2 := sa_write (o := .lst (vs ++ [.ref b] ++ [.ref c])) S1 C.gl C.nl (fun φ w => by rw [hl1] at w; cases w)
  have hb2 : upd (upd H c (.lst [])) l (.lst (vs ++ [.ref b] ++ [.ref c])) b = some (.lst (ns.map .int)) := by rw [upd_ne (Ne.symm C.ne), upd_ne cb]; exact C.hb
  have S3 := sa_know S2 hb2 C.gb C.nb
  have ex : Ex G (upd G b (.lst (ns.map .int))) := Ex.new C.gb
  refine ⟨S3, by rw [upd_same], by rw [upd_ne (Ne.symm cl), upd_same]; rfl, by rw [upd_ne C.ne]; exact C.gl, by rw [upd_ne (Ne.symm cb)]; exact gc, C.nl, nc, cl, ?_⟩
  rw [List.map_append]
  exact rps_snoc (.lst upd_same intsRp) (dps_mono ex _ _ C.dn)
theorem stp_write {p : Addr} {o : HO} (st : Stp G0 s0 σ0 H0 G s σ H) (h0 : H0 p = none) : Stp G0 s0 σ0 H0 G s σ (upd H p o) := by
  refine ⟨st.ex, fun a u h n => ?_, st.own, fun a h => ?_, st.pw⟩
  · obtain ⟨w1, w2⟩ := st.keep a u h n
    exact ⟨by rw [upd_ne fun z => by rw [z, h0] at h; cases h]; exact w1, w2⟩
  · by_cases q : a = p
    · subst q; rw [upd_same]; simp
    · rw [upd_ne q]; exact st.dom a h
theorem stp_know {p : Addr} {o : HO} (st : Stp G0 s0 σ0 H0 G s σ H) (h0 : H0 p = none) (gp : G p = none) : Stp G0 s0 σ0 H0 (upd G p o) s σ H := by
  refine ⟨st.ex.trans (Ex.new gp), fun a u h n => ?_, st.own, st.dom, st.pw⟩
  obtain ⟨w1, w2⟩ := st.keep a u h n
  exact ⟨w1, by rw [upd_ne fun z => by rw [z, h0] at h; cases h]; exact w2⟩
end
theorem atI_end {α : Type} {xs : List α} {z : α} : atI (xs ++ [z]) (-1) = some z := by
  unfold atI
  have e : ixN (xs ++ [z]).length (-1) = some xs.length := by
    unfold ixN
    simp
    try omega
  rw [e]
  simp
theorem strsD_eq : ∀ {ds : List PyData} {ws : List Str}, strsD ds = some ws → ds = ws.map .str
  | [], ws, h => by cases h; rfl
  | d :: ds, ws, h => by
    cases d with
    | str x =>
      cases q : strsD ds with
      | none => simp [strsD, q] at h
      | some zs => simp [strsD, q] at h; rw [← h, strsD_eq q]; rfl
    | _ => simp [strsD] at h
theorem fout_res2 {α : Type} {K : PySem.W.Frag} {cl : String → Addr} {W : WX} {G G0 H H0 : Hp} {s s0 : DSt} {σ σ0 : L2.St} {r : Res α} {g : α → DSt → Flow} {D : Ends} (st : Stp G s σ H G0 s0 σ0 H0) (h : FOut K cl W G s σ H (onRes r g) D) :
    Out K cl W G0 s0 σ0 H0 r fun a G1 s1 H1 => FOut K cl W G s σ H (g a s1) D := by
  cases r with
  | ok a s1 => exact fun G1 H1 st1 S1 => h
  | err x s1 => exact fun c d G1 H1 st1 S1 xr => h c d G1 σ0 H1 (st.trans st1) S1 xr
  | stuck => exact h
theorem own_noS {s : DSt} {σ : L2.St} {j : Nat} {v : Option V} {a : Addr} (jl : j < s.d.length) (h : Own (putS j .no s) (σ.set j v) a) : Own s σ a := by
  rcases h with ⟨i', ⟨es, z1⟩, z2⟩ | z
  · by_cases q : i' = j
    · subst q; simp [putS, jl] at z1
    · simp only [putS, List.getElem?_set_ne (Ne.symm q)] at z1 z2
      exact .inl ⟨i', ⟨es, z1⟩, z2⟩
  · exact .inr z
section
variable {X : Cx} {cl : String → Addr} {W : WX} {te ie z tg iter x1 x2 : Expr} {fi : M (List PyData)} {rest : List Stmt} {q : DSt → Flow}
theorem s_cuts {sep y : Str} {j i : Nat} {py p1 p2 pos1 pos2 pos3 p3 ap1 cp1 ep1 sp ap2 cp2 ep2 : Pos} (hp : PassesOwn (model X.prog X.w) X.A X.env X.xe) (hc : X.calm = true) (hN : X.N.Nodup) (hj : X.N[j]? = some y) (hy : Loc X.env.scope y)
    (hi : DI X cl W tg iter fi) (hg : PG X tg (gName i)) (ht : DT X cl W te (fB (fOp (lift2 eqO) (fVar i) (fC (.str sep))))) (hx1 : PE X x1 (tVar j)) (hx2 : PE X x2 (tVar j)) (hie : DE X cl W ie (fUn (lift1 negO) (fC (.int 1)))) (hpl : PlainIx ie)
    (hz : DE X cl W z (fCall intTO (pCons (fVar i) fNil))) (hrest : DSs X cl W rest q)
    (hf : X.fn y = true ∨ X.env.scope.names.lookup y = some .local := by first | exact .inl rfl | exact .inr rfl | assumption)
    (hsw0 : swapsWith (.List [.List [] p1] p2) (some (.Name y py)) pos1.line X.env = pure false := by rfl)
    (hs0 : starEach [.List [] p1] X.env = (false, eval (.List [] p1) X.env) :: starEach [] X.env := by rfl)
    (hbase1 : attributeBase x1 "append" X.env (eval x1 X.env) = eval x1 X.env := by rfl)
    (hfew1 : ((backTo cp1 (starEach [.List [] p3] X.env)).all (fun x => !x.1) && (backToKw cp1 (keywordEach [] X.env)).all (fun x => x.1.isSome) && decide (([.List [] p3] : List Expr).length + ([] : List Keyword).length + (if ([] : List Keyword).isEmpty then 0 else 1) < 30)) = true := by rfl)
    (hline1 : (ap1.endLine == cp1.line) = true := by rfl) (hs1 : starEach [.List [] p3] X.env = (false, eval (.List [] p3) X.env) :: starEach [] X.env := by rfl) (hplain1 : (backTo cp1 (starEach [] X.env)).any (·.1) = false := by rfl)
    (hsw1 : swapsWith (.Call (.Attribute x1 "append" ap1) [.List [] p3] [] cp1) none ep1.line X.env = pure false := by rfl)
    (hbase2 : attributeBase (.Subscript x2 ie sp) "append" X.env (eval (.Subscript x2 ie sp) X.env) = eval (.Subscript x2 ie sp) X.env := by rfl)
    (hfew2 : ((backTo cp2 (starEach [z] X.env)).all (fun x => !x.1) && (backToKw cp2 (keywordEach [] X.env)).all (fun x => x.1.isSome) && decide (([z] : List Expr).length + ([] : List Keyword).length + (if ([] : List Keyword).isEmpty then 0 else 1) < 30)) = true := by rfl)
    (hline2 : (ap2.endLine == cp2.line) = true := by rfl) (hs2 : starEach [z] X.env = (false, eval z X.env) :: starEach [] X.env := by rfl) (hplain2 : (backTo cp2 (starEach [] X.env)).any (·.1) = false := by rfl)
    (hsw2 : swapsWith (.Call (.Attribute (.Subscript x2 ie sp) "append" ap2) [z] [] cp2) none ep2.line X.env = pure false := by rfl)
    (hs : ∀ x, foldedSetIterable iter X.env x = pure x := by intro _; rfl) :
    DSs X cl W (.Assign [.Name y py] (.List [.List [] p1] p2) pos1 :: .For tg iter [.If te [.Expr (.Call (.Attribute x1 "append" ap1) [.List [] p3] [] cp1) ep1] [.Expr (.Call (.Attribute (.Subscript x2 ie sp) "append" ap2) [z] [] cp2) ep2] pos3] [] pos2 :: rest) (fseq (fCuts sep j i fi) q) := by
  have hap1 := ps_expr (pe_bm PySem.F.plainAttrs_list PySem.F.slot_list_append PySem.F.type_list_append mt_append hx1 (pa_cons (pe_lst pa_nil) pa_nil hs1) hbase1 hfew1 hline1 hs1 hplain1) hsw1
  have hap2 := ps_expr (pe_bm PySem.F.plainAttrs_list PySem.F.slot_list_append PySem.F.type_list_append mt_append (pe_ix ix_list hx2 hie hpl) (pa_cons hz pa_nil hs2) hbase2 hfew2 hline2 hs2 hplain2) hsw2
  refine pss_imp (pss_cons (ps_set hN hj hy (pe_lst (pa_cons (pe_lst pa_nil) pa_nil hs0)) hsw0 hf) (pss_cons (ps_for hp hc hi hg (pss_one (ps_if ht (pss_one hap1) (pss_one hap2))) hs) hrest)) fun D σ H ⟨G, s, S, h⟩ => ?_
  have h' : FOut X.K cl W G s σ H (fCuts sep j i fi s) { D with nx := fun σ' H' => tS X.K cl W q D σ' H' } := by
    unfold fseq at h
    cases z : fCuts sep j i fi s with
    | next s1 => rw [z] at h; exact fun G1 σ1 H1 st1 S1 => ⟨G1, s1, S1, fout_shift st1 h⟩
    | brk s1 => rw [z] at h; exact h
    | cnt s1 => rw [z] at h; exact h
    | ret r s1 => rw [z] at h; exact h
    | err x s1 => rw [z] at h; exact h
    | stuck => rw [z] at h; exact h
  unfold fCuts at h'
  split at h'
  rotate_left
  · exact h'.elim
  rename_i jl
  refine ⟨Nat.zero_le _, fun b hb => ⟨by show 1 ≤ sizeLine; rw [sizeLine_eq]; omega, fun l hl => ?_⟩⟩
  have lb : l ≠ b := fun z => by subst z; rw [upd_same] at hl; cases hl
  have hlH : H l = none := by rw [upd_ne lb] at hl; exact hl
  have Sb := (new_list (H0 := H) S hb (.nil : RpAll X.K G [] []) (fun _ h => h)).2.1
  have Sl := (new_list (H0 := H) Sb hl (.nil : RpAll X.K G [] []) (fun a h => by
    by_cases e : a = b
    · subst e; rw [upd_same]; simp
    · rw [upd_ne e]; exact h)).2.1
  have gl : G l = none := Evl.fresh_back S.gh hlH
  have gb : G b = none := Evl.fresh_back S.gh hb
  have nlS : ¬ Own s σ l := fun z => by obtain ⟨xs, e, _⟩ := S.ownS z; rw [hlH] at e; cases e
  have nbS : ¬ Own s σ b := fun z => by obtain ⟨xs, e, _⟩ := S.ownS z; rw [hb] at e; cases e
  have Sw := sa_write (o := .lst [.ref b]) Sl gl nlS (fun φ w => by rw [upd_same] at w; cases w)
  rw [upd_upd] at Sw
  obtain ⟨H3, eH3⟩ : ∃ H3, upd (upd H b (.lst [])) l (.lst [.ref b]) = H3 := ⟨_, rfl⟩
  rw [eH3] at Sw
  have st0 : Stp G s σ H G s σ H3 := by
    rw [← eH3]
    exact stp_write (stp_write Stp.refl hb) hlH
  have S0 := put_ok (x := .no) (v := .ref l) Sw jl trivial (fun _ _ z => by cases z)
  have st00 := put_stp (x := .no) (v := .ref l) Sw st0 jl (fun _ _ z => by cases z)
  have own0 : ∀ a, Own (putS j .no s) (σ.set j (some (.ref l))) a → Own s σ a ∨ H a = none := st00.own
  have C0 : Cu X.K l b [] [] [] G (putS j .no s) (σ.set j (some (.ref l))) H3 := by
    exact ⟨S0, by rw [← eH3, upd_same]; rfl, by rw [← eH3, upd_ne (Ne.symm lb), upd_same]; rfl, gl, gb, fun z => nlS (own_noS jl z), fun z => nbS (own_noS jl z), lb, .nil⟩
  subst eH3
  have jσ : j < σ.length := by rw [← S.len]; exact jl
  refine ⟨G, putS j .no s, S0, out_mono (fout_res2 st00 h') fun ds G1 s1 H1 st1 S1 k J hJ => ?_⟩
  have C1 := C0.shift st1 S1
  have st01 := st00.trans st1
  unfold kCuts at k
  split at k
  rotate_left
  · exact k.elim
  rename_i ws ew
  split at k
  rotate_left
  · exact k.elim
  rename_i r er
  split at k
  rotate_left
  · exact k.elim
  rename_i hh
  obtain ⟨jl1, il1, ij, hlt, hno⟩ := hh
  obtain rfl := strsD_eq ew
  refine ⟨fun k' m σ2 H2 => ∃ G2 s2 b vs dl ns, Cu X.K l b vs dl ns G2 s2 σ2 H2 ∧ Stp G s σ H G2 s2 σ2 H2 ∧ H b = none ∧ Ex G1 G2 ∧ isNoS (s2.d[j]?) = true ∧ s2.d.length = s1.d.length ∧ σ2[j]? = some (some (.ref l)) ∧ vs.length + ns.length + (ws.drop k').length ≤ ws.length ∧ cutW sep (ws.drop k') dl ns = some r ∧ putL i (ws.drop k') s2 = putL i ws s1 ∧ m = ws.length - k' ∧ k' ≤ ws.length,
    ⟨ws.length, G1, s1, b, [], [], [], C1, st01, hb, Ex.refl G1, hno, rfl, by rw [List.getElem?_set_self jσ], by simp, er, rfl, by simp, Nat.zero_le _⟩, ?_⟩
  rintro k' m σ2 H2 ⟨G2, s2, b, vs, dl, ns, C2, st2, hb2, ex2, no2, ln2, ej2, sz2, ec2, ep2, rfl, hk⟩
  obtain ⟨j1, j2⟩ := hJ G2 s2 σ2 H2 ex2 C2.S k'
  by_cases hl' : k' < ws.length
  · obtain ⟨go, yl⟩ := j1 (.str ws[k']) (by rw [List.getElem?_map, List.getElem?_eq_getElem hl']; rfl)
    rw [List.drop_eq_getElem_cons hl'] at ec2 ep2 sz2
    obtain ⟨w, hw⟩ : ∃ w, ws[k'] = w := ⟨_, rfl⟩
    rw [hw] at ec2 ep2 yl
    rw [List.length_cons] at sz2
    refine .inr ⟨go, fun σ3 H3 => ∃ G2 s2 b vs dl ns, Cu X.K l b vs dl ns G2 s2 σ3 H3 ∧ Stp G s σ H G2 s2 σ3 H3 ∧ H b = none ∧ Ex G1 G2 ∧ isNoS (s2.d[j]?) = true ∧ s2.d.length = s1.d.length ∧ σ3[j]? = some (some (.ref l)) ∧ vs.length + ns.length + (ws.drop (k' + 1)).length ≤ ws.length ∧ cutW sep (ws.drop (k' + 1)) dl ns = some r ∧ putL i (ws.drop (k' + 1)) s2 = putL i ws s1,
      fun σ3 H3 ⟨G3, s3, b, vs, dl, ns, a1, a2, a3, a4, a5, a6, a7, a8, a9, a10⟩ => ⟨ws.length - (k' + 1), by omega, G3, s3, b, vs, dl, ns, a1, a2, a3, a4, a5, a6, a7, a8, a9, a10, rfl, hl'⟩, fun x H3 y => ?_⟩
    obtain ⟨G3, st3, S3, rp⟩ := yl x H3 y
    have C3 := C2.shift st3 S3
    have il2 : i < s2.d.length := by rw [ln2]; exact il1
    have qb : bName i (.str w) s2 = some (putS i (.val (.str w)) s2) := if_pos il2
    refine g_name i x (.str w) G3 s2 σ2 H3 _ _ S3 rp qb fun σ4 l4 n4 m4 w4 st4 S4 => ?_
    have C4 := C3.shift st4 S4
    have si : (putS i (.val (.str w)) s2).d[i]? = some (.val (.str w)) := by simp [putS, il2]
    have sj : isNoS ((putS i (.val (.str w)) s2).d[j]?) = true := by simp only [putS, List.getElem?_set_ne ij]; exact no2
    have sl : (putS i (.val (.str w)) s2).d.length = s1.d.length := by simp [putS, ln2]
    have ej4 : σ4[j]? = some (some (.ref l)) := by rw [n4 j (by simpa using Ne.symm ij)]; exact ej2
    have ep4 : putL i (ws.drop (k' + 1)) (putS i (.val (.str w)) s2) = putL i ws s1 := ep2
    have st24 := (st2.trans st3).trans st4
    have ex24 := (ex2.trans st3.ex).trans st4.ex
    obtain ⟨s4, hs4⟩ : ∃ s4, putS i (.val (.str w)) s2 = s4 := ⟨_, rfl⟩
    rw [hs4] at C4 S4 si sj sl ep4 st24
    have et : fB (fOp (lift2 eqO) (fVar i) (fC (.str sep))) s4 = .ok (decide (w = sep)) s4 := by simp [si]
    refine ⟨_, s4, C4.S, ?_⟩
    rw [et]
    intro G5 H5 st5 S5
    have C5 := C4.shift st5 S5
    have st25 := st24.trans st5
    have ex25 := ex24.trans st5.ex
    by_cases hw2 : w = sep
    · rw [decide_eq_true hw2]
      have ec5 : cutW sep (ws.drop (k' + 1)) (dl ++ [ns]) [] = some r := by rw [← ec2, cutW, if_pos hw2]
      refine ⟨.ref l, ej4, .inl ⟨rfl, _, .of C5.hl⟩, Nat.zero_le _, fun c hc5 => ?_⟩
      have lc : l ≠ c := fun z => by have := C5.hl; rw [z, hc5] at this; cases this
      refine ⟨l, vs ++ [.ref b], .ref c, rfl, rfl, by rw [upd_ne lc]; exact C5.hl, ?_, ?_⟩
      · have : ws.length + 1 < sizeLine := hlt
        rw [List.length_append, List.length_singleton]
        omega
      · have C6 := C5.addL hc5
        have hcH : H c = none := by
          cases e : H c with
          | none => rfl
          | some o => exact absurd hc5 (st25.dom c (by rw [e]; simp))
        refine ⟨_, s4, c, vs ++ [.ref b], dl ++ [ns], [], C6, stp_know (stp_write (stp_write st25 hcH) hlH) hb2 C5.gb, hcH, ex25.trans (Ex.new C5.gb), sj, sl, ej4, ?_, ec5, ep4⟩
        rw [List.length_append, List.length_singleton, List.length_nil]
        omega
    · rw [decide_eq_false hw2]
      rw [cutW, if_neg hw2] at ec2
      split at ec2
      rotate_left
      · cases ec2
      rename_i nn en
      have ez : fCall intTO (pCons (fVar i) fNil) s4 = .ok (.val (.int nn)) s4 := by simp [si, en]
      have em : fUn (lift1 negO) (fC (.int 1)) s4 = .ok (.val (.int (-1))) s4 := by simp
      refine ⟨.ref l, ej4, ⟨_, s4, C5.S, ?_⟩⟩
      rw [em]
      intro G6 H6 st6 S6 v6 rr6
      cases (show Rp X.K G6 v6 (.int (-1)) from rr6)
      have C6 := C5.shift st6 S6
      refine ⟨l, vs ++ [.ref b], -1, .ref b, rfl, rfl, .of C6.hl, atI_end, .inl ⟨rfl, _, .of C6.hb⟩, ⟨_, s4, C6.S, ?_⟩⟩
      rw [ez]
      intro G7 H7 st7 S7 v7 rr7
      cases (show Rp X.K G7 v7 (.int nn) from rr7)
      have C7 := C6.shift st7 S7
      refine ⟨b, ns.map .int, .int nn, rfl, rfl, C7.hb, ?_, ?_⟩
      · have : ws.length + 1 < sizeLine := hlt
        rw [List.length_map]
        omega
      · refine ⟨_, s4, b, vs, dl, ns ++ [nn], C7.addI nn, stp_write ((st25.trans st6).trans st7) hb2, hb2, (ex25.trans st6.ex).trans st7.ex, sj, sl, ej4, ?_, ec2, ep4⟩
        rw [List.length_append, List.length_singleton]
        omega
  · have e : k' = ws.length := by omega
    subst e
    rw [List.drop_length] at ec2 ep2
    refine .inl ⟨j2 (by simp), ?_⟩
    have er := Option.some.inj ec2
    subst er
    have e2 : s2 = putL i ws s1 := ep2
    have SK := sa_know C2.S C2.hb C2.gb C2.nb
    have stK := stp_know (o := .lst (ns.map .int)) st2 hb2 C2.gb
    have jl2 : j < s2.d.length := by rw [ln2]; exact jl1
    have es2 : σ2.set j (some (V.ref l)) = σ2 := by
      refine List.ext_getElem? fun i' => ?_
      by_cases q : i' = j
      · subst q
        rw [List.getElem?_set_self (by rw [← SK.len]; exact jl2), ej2]
      · rw [List.getElem?_set_ne (Ne.symm q)]
    have dn : RpAll X.K (upd G2 b (.lst (ns.map .int))) (vs ++ [.ref b]) ((dl ++ [ns]).map iLs) := by
      rw [List.map_append]
      exact rps_snoc (.lst upd_same intsRp) (dps_mono (Ex.new C2.gb) _ _ C2.dn)
    have S3 := put_ok (x := .own ((dl ++ [ns]).map iLs)) (v := .ref l) SK jl2 ⟨l, vs ++ [.ref b], rfl, C2.hl, dn⟩ fun ds a e1 e3 => by
      cases e3
      exact ⟨by rw [upd_ne C2.ne]; exact C2.gl, fun z => C2.nl (.inr z), fun j' _ z => C2.nl (.inl ⟨j', z⟩)⟩
    have st3 := put_stp (x := .own ((dl ++ [ns]).map iLs)) (v := .ref l) SK stK jl2 fun ds a e1 e3 => by
      cases e3
      exact .inl hlH
    rw [es2] at S3 st3
    rw [e2] at S3 st3
    exact k _ _ _ st3 S3
end
/-! ### rows for simp -/
@[simp] theorem x_cuts {sep : Str} {j i : Nat} {fi : M (List PyData)} {s : DSt} : fCuts sep j i fi s = if j < s.d.length then onRes (fi (putS j .no s)) (kCuts sep j i) else .stuck := Eq.trans rfl rfl
theorem putL_last {i : Nat} {s : DSt} : ∀ {ws : List Str} {w : Str}, putL i (ws ++ [w]) s = putS i (.val (.str w)) s
  | [], w => rfl
  | a :: ws, w => by
    show putL i (ws ++ [w]) (putS i (.val (.str a)) s) = _
    rw [putL_last]
    simp [putS, List.set_set]
theorem y_kCuts {sep : Str} {j i : Nat} {ws : List Str} {r : List (List Int) × List Int} {s : DSt} (h : cutW sep ws [] [] = some r) (hl : ltS (ws.length + 1)) : kCuts sep j i (ws.map .str) s = if j < s.d.length ∧ i < s.d.length ∧ i ≠ j ∧ isNoS (s.d[j]?) = true then .next (putS j (.own ((r.1 ++ [r.2]).map iLs)) (putL i ws s)) else .stuck := by
  unfold kCuts
  rw [strsD_map]
  dsimp only
  rw [h]
  simp [hl]
end DL

/-! DL93: enumerate(tuple) -/
namespace PySem
open Sem (wp)
open AutoSeq1 (wpAny_loadPart')
theorem meets_enumerate_new1 {v : Value} {o : Obj} {H : Heap → Prop} (B : Begins v o H) :
    Meets (Builtin.«enumerate.__new__» ⟨[.type "enumerate", v], []⟩) (fun _ R s => H s.heap ∧
      R (.ok (.ret (.ref (s.heap.push o).objs.size))) { s with heap := (s.heap.push o).push { cls := .type "enumerate", data := .fields #[.none, .bool false, .ref s.heap.objs.size, rawInt 0, .none, .none] } }) :=
  .of_wp fun prog w A R s h => by
    obtain ⟨hp, g, d, tk, os⟩ := s; obtain ⟨h1, h⟩ := h
    have hsub := sub_enumerate
    have q1 : ∀ {A' : Around} {E : Value → Shared → Prop} {Q : Value → Shared → Prop}, Q (.ref hp.objs.size) ⟨hp.push o, g, d, tk, os⟩ → wpAny (model prog w) A' (pyIter v) Q E ⟨hp, g, d, tk, os⟩ :=
      fun q => B.iter prog w _ _ ⟨hp, g, d, tk, os⟩ _ h1 q
    wp_walk using q1
    refine wpAny_stack_any fun st => wpAny_pure ?_
    split
    · rename_i c _ _ _ _ _
      cases (c == Value.type "enumerate")
      · wp_walk using q1
        exact ⟨_, rfl, h⟩
      · wp_walk using q1
        exact ⟨_, rfl, h⟩
    · wp_walk using q1
      exact ⟨_, rfl, h⟩
section
variable {prog : Program} {w : World} {A : Around} {E : Value → Shared → Prop} {s : Shared}
theorem enum_begins1 {v : Value} {o : Obj} {H : Heap → Prop} {Q : Value → Shared → Prop} (B : Begins v o H) (h1 : H s.heap)
    (h : ∀ h', IsEnum h' (s.heap.objs.size + 1) s.heap.objs.size 0 .none → h'.get? s.heap.objs.size = some o → h'.objs.size = s.heap.objs.size + 2 →
      (∀ b o, s.heap.get? b = some o → h'.get? b = some o) → Q (.ref (s.heap.objs.size + 1)) { s with heap := h' }) :
    wpAny (model prog w) A (call (.type "enumerate") [v]) Q E s := by
  refine callType_new F.called_enumerate (by decide) (F.typeCall_enumerate_1 _) (F.newCall_enumerate_1 _) (fun obj => F.args_object_init_2 obj _) F.entry_enumerate_new
    (meets_enumerate_new1 B) ⟨h1, ?_⟩
  have hz : (s.heap.push o).objs.size = s.heap.objs.size + 1 := Heap.size_push ..
  show _ ∧ _
  rw [hz]
  have he : IsEnum ((s.heap.push o).push { cls := .type "enumerate", data := .fields #[.none, .bool false, .ref s.heap.objs.size, rawInt 0, .none, .none] }) (s.heap.objs.size + 1) s.heap.objs.size 0 .none := by
    have := Heap.get?_push_size (s.heap.push o) (o := { cls := .type "enumerate", data := .fields #[.none, .bool false, .ref s.heap.objs.size, rawInt 0, .none, .none] }) rfl
    rw [hz] at this; exact this
  refine ⟨⟨_, he, rfl⟩, h _ he (Heap.get?_push_of_some _ (Heap.get?_push_size _ B.free)) (by rw [Heap.size_push, hz]) fun b o x => Heap.get?_push_of_some _ (Heap.get?_push_of_some _ x)⟩
end
end PySem
noncomputable section
namespace DL
open PySem L2 PyProof.Rows
open Evl (Ex)
def IteT (K : PySem.W.Frag) (a : Addr) : It :=
  ⟨fun i H => ∃ (xs : List V) (x : V), SqT K H a xs ∧ xs[i]? = some x, fun i H v H' => ∃ T x, v = .ref T ∧ H T = none ∧ H' = upd H T (.tup [.int (i : Nat), x]) ∧ ∀ xs, SqT K H a xs → xs[i]? = some x, fun i H => ∃ xs : List V, SqT K H a xs ∧ xs.length ≤ i⟩
theorem turn_enumT {P : Program} {w : World} {K : PySem.W.Frag} {elts : List Expr} {kk : Nat} {tpos : Pos} (a e it : Addr) :
    Turn P w K (.Tuple elts kk tpos) (IteT K a) [e, it] e (fun i h => (∃ old, IsEnum h e it ((i : Nat) : Int) old) ∧ h.IsTupleIter it a i ∧ e ≠ it) where
  mem := by simp
  obj := fun i h st b hb => by
    obtain ⟨⟨old, he⟩, ⟨o, ho, hc, hd⟩, _⟩ := st
    have e' : b = e ∨ b = it := by simpa using hb
    rcases e' with z | z
    · rw [z]; exact ⟨_, he, fun v q => nomatch q⟩
    · rw [z]; exact ⟨o, ho, fun v q => by rw [hd] at q; cases q⟩
  keep := fun i h h' st k => let ⟨⟨old, he⟩, hi, hne⟩ := st; ⟨⟨old, k e (by simp) _ he⟩, hi.at fun o q => k it (by simp) o q, hne⟩
  item := by
    intro X hP hw hK hc i pins s σ H E I hf st hg
    subst hP hw hK
    obtain ⟨⟨old, he⟩, hit, hne⟩ := st
    obtain ⟨xs, x, hq, hx⟩ := hg
    obtain ⟨its, rv, p, hz⟩ := I.tuple hq
    obtain ⟨u, hu, ru⟩ := rv.get hx
    have hh : X.A.in1.handled = none := I.ok.hd hc
    have D := PySem.Draws.tuple (prog := X.prog) (w := X.w) hh it a (itM_neT hit p) its.toArray
    have hel : e < s.heap.objs.size := Heap.lt_size he
    have hil : it < s.heap.objs.size := by obtain ⟨_, q, _⟩ := hit; exact Heap.lt_size q
    have hea : e ∉ [it, a] := fun z => by
      rcases List.mem_cons.mp z with z | z
      · exact hne z
      · have z := List.mem_singleton.mp z
        obtain ⟨o, ho, hc', _⟩ := p
        rw [← z] at ho
        have := he.symm.trans ho
        cases this
        simp at hc'
    refine wpAny_pyNext_enum_itemD D he ⟨hit, p⟩ (by have := (List.getElem?_eq_some_iff.mp hu).1; simpa using this) hne hea fun x1 h' tk e1 ho hst' hT hsz hk => ?_
    have e1 : u = x1 := by simp at e1; rw [hu] at e1; exact Option.some.inj e1
    subst e1
    refine ⟨_, rfl, wpAny_letOwnedTupleGo_enum (s := { s with heap := h', toks := tk + 1 }) ho fun h'' he' sb => ?_⟩
    have hT2 : h''.get? s.heap.objs.size = some { cls := .type "tuple", data := .seq #[.int i tk, u] } := (sb.2 _ (Nat.ne_of_gt hel)).trans hT
    have new : ObjOk X.prog X.w (upd H s.heap.objs.size (.tup [.int (i : Nat), x])) h'' s.heap.objs.size (.tup [.int (i : Nat), x]) :=
      ⟨by show 2 ≤ sizeLine; decide, [.int i tk, u], .cons ⟨_, rfl⟩ (.cons ru .nil), ⟨_, hT2, rfl, _, rfl⟩⟩
    have I1 : Inv X pins σ (upd H s.heap.objs.size (.tup [.int (i : Nat), x])) { s with heap := h'', toks := tk + 1 } :=
      I.turnedNew (ch := [e, it]) (fun b ob hb q => (sb.2 b (fun z => hb (by simp [z]))).trans (hk b ob (fun z => hb (by simp [z])) (fun z => hb (by simp [z])) q)) hf (Nat.le_refl _) new
    refine ⟨.ref s.heap.objs.size, _, I1, rfl, ⟨_, x, rfl, I.hok.fresh (Nat.le_refl _), rfl, fun ys hy => by rw [I.tuple_inj hy hq]; exact hx⟩, ⟨⟨u, ?_⟩, hst'.1.at fun o q => (sb.2 it (Ne.symm hne)).trans q, hne⟩, fun b hb => ?_⟩
    · have e1 : ((i + 1 : Nat) : Int) = (i : Int) + 1 := by omega
      rw [e1]; exact he'
    · have hb' : b < s.heap.objs.size := by
        have e' : b = e ∨ b = it := by simpa using hb
        rcases e' with z | z
        · rw [z]; exact hel
        · rw [z]; exact hil
      rw [upd_ne (Nat.ne_of_lt hb')]
      exact (hf b hb).1
  done := by
    intro X hP hw hK hc i pins s σ H E I hf st hg
    subst hP hw hK
    obtain ⟨⟨old, he⟩, hit, hne⟩ := st
    obtain ⟨xs, hq, hx⟩ := hg
    obtain ⟨its, rv, p, hz⟩ := I.tuple hq
    obtain ⟨f0, f1, f2, f3, f4, f5⟩ := hf it (by simp)
    have hl := rv.length
    have hh : X.A.in1.handled = none := I.ok.hd hc
    obtain ⟨n1, P1, S1, D1, st1, b1, e1⟩ := drawsM_tup (prog := X.prog) (w := X.w) hh (itM_neT hit p) its.toArray hit p
    have en : i = n1 := e1 (by simp; omega)
    exact wpAny_pyNext_enum_endD D1 he (en ▸ st1) fun h' eb => ⟨rfl, I.turned (t' := s.toks) (fun b o hb q => eb b o hb q) f0 f1 f3 f4 f5⟩
  self := fun A i s Q E st h => let ⟨⟨_, he⟩, _⟩ := st; wpAny_pyIter_enum he h
def iEnumT (K : PySem.W.Frag) (ta : TA) : TI := fun σ H R => ta σ H fun vs H1 => ∃ a xs, vs = [.ref a] ∧ SqT K H1 a xs ∧ R (IteT K a) H1
theorem pi_enumT {X : Cx} {e : Expr} {ta : TA} {p pos tpos : Pos} {elts : List Expr} {kk : Nat} (hg : Gl X "enumerate") (hm : X.mg "enumerate" = none) (ha : PA X [e] ta) (hs : starEach [e] X.env = [(false, eval e X.env)] := by rfl) :
    PI X (.Tuple elts kk tpos) (.Call (.Name "enumerate" p) [e] [] pos) (iEnumT X.K ta) := by
  refine ⟨fun pins s σ H R I h => ?_⟩
  refine Call_ (ld_blt I hg hm boot_enumerate (PyProof.Rows.callWith_type1 (thn (ha.run pos pins s σ H _ I h) fun us s1 ⟨vs, H1, I1, r1, q1⟩ => ?_) hs rfl))
  obtain ⟨a, xs, ex, hq, q⟩ := q1
  subst ex
  cases r1 with
  | cons r rr =>
    cases rr
    cases r
    obtain ⟨its, rv, p', hz⟩ := I1.tuple hq
    refine PySem.enum_begins1 (PySem.begins_tuple a its.toArray) p' fun h' he hit hsz hk => wpAny_pyIter_enum he ?_
    have I2 : Inv X pins σ H1 { s1 with heap := h' } := I1.kept (t' := s1.toks) hk
    refine ⟨s1.heap.objs.size + 1, [s1.heap.objs.size + 1, s1.heap.objs.size], _, _, H1, rfl, I2, turn_enumT a (s1.heap.objs.size + 1) s1.heap.objs.size, ⟨⟨.none, he⟩, ⟨_, hit, rfl, rfl⟩, Nat.succ_ne_self _⟩, fun b hb => ?_, q⟩
    have e' : b = s1.heap.objs.size + 1 ∨ b = s1.heap.objs.size := by simpa using hb
    have hle : s1.heap.objs.size ≤ b := by
      rcases e' with z | z
      · rw [z]; exact Nat.le_add_right _ _
      · rw [z]; exact Nat.le_refl _
    exact I1.fpOk hle (I1.hok.fresh hle)
theorem it_enumT {K : PySem.W.Frag} {G : Hp} {a : Addr} {xs : List V} {ds : List PyData} (h : SqT K G a xs) (hd : RpAll K G xs ds) : ItOk K (IteT K a) (enumD ds) G := by
  intro G' s' σ' H' ex S i
  have hH : SqT K H' a xs := sqt_ex h fun b o e => S.gh _ _ (ex _ _ e)
  refine ⟨fun d e => ?_, fun hl => ⟨xs, hH, by rw [dps_len hd]; simpa [enumD] using hl⟩⟩
  have hi : i < ds.length := by have := (List.getElem?_eq_some_iff.mp e).1; simpa [enumD] using this
  have hx : i < xs.length := by rw [dps_len hd]; exact hi
  have e2 : d = .tuple [.int (i : Int), ds[i]] := by
    simp [enumD, hi] at e
    exact e.symm
  subst e2
  refine ⟨⟨xs, xs[i], hH, by simp [hx]⟩, fun x H2 ⟨T, y, e3, hT, e4, hy⟩ => ?_⟩
  subst e3 e4
  obtain ⟨d', e', r⟩ := dps_get hd (hy xs hH)
  have e5 : d' = ds[i] := by rw [List.getElem?_eq_getElem hi] at e'; exact (Option.some.inj e').symm
  subst e5
  obtain ⟨st, S2⟩ := new_known (.tup [.int (i : Nat), y]) S hT
  exact ⟨_, st, S2, .tup upd_same (.cons (.int _) (.cons (dp_mono (ex.trans st.ex) _ _ r) .nil))⟩
theorem sqt_of {K : PySem.W.Frag} {G : Hp} {v : V} {ds : List PyData} (h : Rp K G v (.tuple ds)) : ∃ a xs, v = .ref a ∧ SqT K G a xs ∧ RpAll K G xs ds := by
  have h2 := rp_dp _ _ h
  cases h <;> first | exact ⟨_, _, rfl, .of (by assumption), by assumption⟩ | exact ⟨_, _, rfl, .inr (by assumption), by assumption⟩
def kEnumT (rs : List R) (s : DSt) : Res (List PyData) := match rs with
  | [.val (.tuple ds)] => .ok (enumD ds) s
  | _ => .stuck
def fEnumT (fs : M (List R)) : M (List PyData) := bnd fs kEnumT
@[simp] theorem y_kEnumT (ds : List PyData) (s : DSt) : kEnumT [.val (.tuple ds)] s = .ok (enumD ds) s := Eq.trans rfl rfl
@[simp] theorem x_enumT {fs : M (List R)} {s : DSt} : fEnumT fs s = (fs s).bind kEnumT := Eq.trans rfl rfl
section
variable {X : Cx} {cl : String → Addr} {W : WX} {e : Expr} {fs : M (List R)}
theorem i_enumT {p pos tpos : Pos} {elts : List Expr} {kk : Nat} (hg : Gl X "enumerate") (hm : X.mg "enumerate" = none) (ha : DAe X cl W [e] fs) (hs : starEach [e] X.env = [(false, eval e X.env)] := by rfl) :
    DI X cl W (.Tuple elts kk tpos) (.Call (.Name "enumerate" p) [e] [] pos) (fEnumT fs) := by
  refine pi_imp (pi_enumT hg hm ha hs) fun σ H R ⟨G, s, S, q⟩ => ?_
  refine ⟨G, s, S, out_mono (out_bind q) fun rs G1 s1 H1 st1 S1 k vs rr => ?_⟩
  unfold kEnumT at k
  split at k
  · rename_i ds
    cases rr with
    | cons r1 r2 =>
      cases r2
      obtain ⟨a, xs, rfl, hq, hd⟩ := sqt_of (show Rp X.K G1 _ (.tuple ds) from r1)
      exact ⟨a, xs, rfl, sqt_ex hq S1.gh, k G1 H1 Stp.refl S1 _ (it_enumT hq hd)⟩
  · exact k.elim
end
end DL

noncomputable section
namespace DL
open PySem L2
def b_law_purse_1 : DSt → Flow := fIfS (fB (fOp (lift2 geO) (fCall absO (pCons (fOp (lift2 ixO) (fVar 1) (fVar 2)) fNil)) (fOp (lift2 powO) (fC (.int 10)) (fC (.int 18))))) (fSetIx 1 (fOp (lift2 modO) (fOp (lift2 ixO) (fVar 1) (fVar 2)) (fOp (lift2 powO) (fOp (lift2 powO) (fC (.int 10)) (fC (.int 60))) (fC (.int 20)))) (fVar 2)) fnext
abbrev o_law_purse_1 : List PyData → DSt → Flow := loopF (bName 2) b_law_purse_1
def p_law_purse : DSt → Flow := fseq (fFor (fRng1 (pCons (fCall lenO (pCons (fVar 1) fNil)) fNil)) (bName 2) b_law_purse_1) (fseq (fIfS (fB (fOp (lift2 eqO) (fVar 1) (fLst fNil))) (fSet 1 (fLst (fCons (fC (.int 0)) fNil))) fnext) (fRet (fLst (fCons (fVar 1) (fCons (fC (.int 0)) fNil)))))
def F_law_purse : List R → Pw → FRes := runF 3 1 p_law_purse
def p_law_draw : DSt → Flow := fseq (fUnP 0 2 3) (fseq (fSet 4 (fOp (lift2 modO) (fVar 3) (fLenC 2))) (fseq (fSet 5 (fIxC 2 (fVar 4))) (fseq (fSetT 0 (fOp (lift2 addO) (fVar 3) (fC (.int 1)))) (fseq (fIfS (fB (fOp (lift2 geO) (fVar 5) (fOp (lift2 powO) (fC (.int 10)) (fC (.int 18))))) (fseq (fSetC 2 (fOp (lift2 fdivO) (fVar 5) (fVar 1)) (fVar 4)) (fRet (fOp (lift2 modO) (fVar 5) (fVar 1)))) fnext) (fseq (fSet 6 (fOp (lift2 modO) (fOp (lift2 addO) (fOp (lift2 addO) (fOp (lift2 mulO) (fOp (lift2 modO) (fVar 5) (fC (.int 2147483629))) (fC (.int 48271))) (fOp (lift2 mulO) (fOp (lift2 mulO) (fVar 3) (fVar 3)) (fC (.int 69621)))) (fC (.int 11))) (fC (.int 2147483647)))) (fseq (fSet 6 (fOp (lift2 modO) (fOp (lift2 mulO) (fVar 6) (fVar 6)) (fC (.int 2147483629)))) (fseq (fSet 6 (fOp (lift2 modO) (fOp (lift2 mulO) (fVar 6) (fVar 6)) (fC (.int 2147483587)))) (fseq (fIfS (fB (fOp (lift2 gtO) (fVar 1) (fOp (lift2 powO) (fC (.int 10)) (fC (.int 9))))) (fseq (fSet 7 (fOp (lift2 modO) (fOp (lift2 addO) (fOp (lift2 addO) (fOp (lift2 mulO) (fVar 6) (fC (.int 39373))) (fOp (lift2 mulO) (fVar 3) (fC (.int 7919)))) (fC (.int 500))) (fC (.int 2147483629)))) (fSet 6 (fOp (lift2 mulO) (fVar 6) (fOp (lift2 addO) (fOp (lift2 mulO) (fOp (lift2 mulO) (fVar 7) (fVar 7)) (fVar 7)) (fC (.int 1)))))) fnext) (fRet (fOp (lift2 modO) (fVar 6) (fVar 1)))))))))))
def F_law_draw : List R → Pw → FRes := runF 8 2 p_law_draw
def WP (pa : Addr) (w : Pw) (m : Int) : Prop := ∃ (ca : Addr) (cells : List Int) (t : Int), pa ≠ ca ∧ w = some (pa, ca, cells, t) ∧ cells ≠ [] ∧ 0 ≤ t ∧ t ≤ m
theorem WP.mono {pa : Addr} {w : Pw} {m m' : Int} (h : WP pa w m) (h2 : m ≤ m') : WP pa w m' := by
  obtain ⟨ca, cells, t, ne, e, hc, t0, tm⟩ := h
  exact ⟨ca, cells, t, ne, e, hc, t0, by omega⟩
theorem z18 :  powO (.int 10) (.int 18) = some (.val (.int 1000000000000000000)) := by
    simp
end DL

noncomputable section
namespace DL
open PySem L2
def c_law_mixed_1 : M Bool := fB (fOp (lift2 neO) (fVar 2) (fLst fNil))
def b_law_mixed_2 : DSt → Flow := fDrop (fApp 3 (fPopAt 2 (fUser F_law_draw (fCons (fVar 0) (fCons (fCall lenO (pCons (fVar 2) fNil)) fNil)))))
abbrev o_law_mixed_2 : DSt → Flow := whileF c_law_mixed_1 b_law_mixed_2 10000
def p_law_mixed : DSt → Flow := fseq (fSet 2 (fCall listO (pCons (fVar 1) fNil))) (fseq (fSet 3 (fLst fNil)) (fseq (whileF c_law_mixed_1 b_law_mixed_2 10000) (fRet (fVar 3))))
def F_law_mixed : List R → Pw → FRes := runF 4 2 p_law_mixed
def b_law_names_1 : DSt → Flow := fseq (fSet 5 (fLst (fCons (fC (.int 1)) (fCons (fOp (lift2 addO) (fC (.int 1)) (fUser F_law_draw (fCons (fVar 0) (fCons (fC (.int 3)) fNil)))) (fCons (fOp (lift2 addO) (fC (.int 1)) (fUser F_law_draw (fCons (fVar 0) (fCons (fOp (lift2 powO) (fC (.int 10)) (fC (.int 28))) fNil)))) fNil))))) (fseq (fSet 3 (fOp (lift2 addO) (fVar 3) (fOp (lift2 ixO) (fVar 5) (fOp (lift2 fdivO) (fUser F_law_draw (fCons (fVar 0) (fCons (fC (.int 6)) fNil))) (fC (.int 2)))))) (fDrop (fApp 2 (fVar 3))))
abbrev o_law_names_1 : List PyData → DSt → Flow := loopF (bName 4) b_law_names_1
def p_law_names : DSt → Flow := fseq (fSet 2 (fLst fNil)) (fseq (fSet 3 (fUn (lift1 negO) (fC (.int 1)))) (fseq (fFor (fRng1 (pCons (fVar 1) fNil)) (bName 4) b_law_names_1) (fRet (fVar 2))))
def F_law_names : List R → Pw → FRes := runF 6 2 p_law_names
/-! drawn lists -/
end DL

noncomputable section
namespace DL
open PySem L2
def p_is_number : DSt → Flow := fRet (fAndV (fIsi "int" (fVar 0)) (fV (fNot (fB (fIsi "bool" (fVar 0))))))
def F_is_number : List R → Pw → FRes := runF 1 1 p_is_number
def e_are_unlike_names_1 : M R := fAndV (fUser F_is_number (fCons (fVar 1) fNil)) (fOp (lift2 geO) (fVar 1) (fC (.int 0)))
abbrev l_are_unlike_names_1 : M R := fLc (fLstI (fVar 0)) (bName 1) fYes (e_are_unlike_names_1) [1]
def p_are_unlike_names : DSt → Flow := fseq (fIfS (fOr (fNot (fB (fIsi "list" (fVar 0)))) (fNot (fB (fCall allO (pCons (fLc (fLstI (fVar 0)) (bName 1) fYes (e_are_unlike_names_1) [1]) fNil))))) (fRet (fC (.bool false))) fnext) (fRet (fOp (lift2 eqO) (fLenSet (fVar 0)) (fCall lenO (pCons (fVar 0) fNil))))
def F_are_unlike_names : List R → Pw → FRes := runF 2 1 p_are_unlike_names
def p_is_ranking : DSt → Flow := fRet (fAndV (fUser F_are_unlike_names (fCons (fVar 0) fNil)) (fAndV (fOp (lift2 gtO) (fCall lenO (pCons (fVar 0) fNil)) (fC (.int 0))) (fOp (lift2 leO) (fCall lenO (pCons (fVar 0) fNil)) (fC (.int 10)))))
def F_is_ranking : List R → Pw → FRes := runF 1 1 p_is_ranking
def p_must_be_ranking : DSt → Flow := fIfS (fNot (fB (fUser F_is_ranking (fCons (fVar 0) fNil)))) (fRaise "NoRanking") fnext
def F_must_be_ranking : List R → Pw → FRes := runF 1 1 p_must_be_ranking
def p_is_ahead : DSt → Flow := fRet (fOp (lift2 ltO) (fIndex (fVar 0) (fVar 1)) (fIndex (fVar 0) (fVar 2)))
def F_is_ahead : List R → Pw → FRes := runF 3 3 p_is_ahead
def p_ahead : DSt → Flow := fseq (fDrop (fUser F_must_be_ranking (fCons (fVar 0) fNil))) (fseq (fIfS (fOr (fB (fOp (lift2 notInO) (fVar 1) (fVar 0))) (fOr (fB (fOp (lift2 notInO) (fVar 2) (fVar 0))) (fB (fOp (lift2 eqO) (fVar 1) (fVar 2))))) (fRaise "NoNames") fnext) (fRet (fUser F_is_ahead (fCons (fVar 0) (fCons (fVar 1) (fCons (fVar 2) fNil))))))
def F_ahead : List R → Pw → FRes := runF 3 3 p_ahead
def e_places_of_pairs_1 : M R := fTup (fCons (fVar 2) (fCons (fVar 3) fNil))
abbrev l_places_of_pairs_1 : M R := fLc (fRng2 (pCons (fOp (lift2 addO) (fVar 2) (fC (.int 1))) (pCons (fVar 0) fNil))) (bName 3) fYes (e_places_of_pairs_1) [3]
def b_places_of_pairs_2 : DSt → Flow := fSet 1 (fOp (lift2 addO) (fVar 1) (fLc (fRng2 (pCons (fOp (lift2 addO) (fVar 2) (fC (.int 1))) (pCons (fVar 0) fNil))) (bName 3) fYes (e_places_of_pairs_1) [3]))
abbrev o_places_of_pairs_2 : List PyData → DSt → Flow := loopF (bName 2) b_places_of_pairs_2
def p_places_of_pairs : DSt → Flow := fseq (fSet 1 (fLst fNil)) (fseq (fFor (fRng1 (pCons (fVar 0) fNil)) (bName 2) b_places_of_pairs_2) (fRet (fVar 1)))
def F_places_of_pairs : List R → Pw → FRes := runF 4 1 p_places_of_pairs
def e_pairs_of_1 : M R := fTup (fCons (fOp (lift2 ixO) (fVar 0) (fVar 1)) (fCons (fOp (lift2 ixO) (fVar 0) (fVar 2)) fNil))
abbrev l_pairs_of_1 : M R := fLc (fLstI (fUser F_places_of_pairs (fCons (fCall lenO (pCons (fVar 0) fNil)) fNil))) (bTup 2 (bCons (bName 1) (bCons (bName 2) bNil))) fYes (e_pairs_of_1) [1, 2]
def p_pairs_of : DSt → Flow := fRet (fLc (fLstI (fUser F_places_of_pairs (fCons (fCall lenO (pCons (fVar 0) fNil)) fNil))) (bTup 2 (bCons (bName 1) (bCons (bName 2) bNil))) fYes (e_pairs_of_1) [1, 2])
def F_pairs_of : List R → Pw → FRes := runF 3 1 p_pairs_of
def t_many_unlike_1 : M Bool := fNot (fB (fUser F_is_ahead (fCons (fVar 1) (fCons (fOp (lift2 ixO) (fVar 2) (fC (.int 0))) (fCons (fOp (lift2 ixO) (fVar 2) (fC (.int 1))) fNil)))))
def e_many_unlike_2 : M R := fVar 2
abbrev l_many_unlike_2 : M R := fLc (fLstI (fUser F_pairs_of (fCons (fVar 0) fNil))) (bName 2) (t_many_unlike_1) (e_many_unlike_2) [2]
def p_many_unlike : DSt → Flow := fRet (fCall lenO (pCons (fLc (fLstI (fUser F_pairs_of (fCons (fVar 0) fNil))) (bName 2) (t_many_unlike_1) (e_many_unlike_2) [2]) fNil))
def F_many_unlike : List R → Pw → FRes := runF 3 2 p_many_unlike
def b_must_be_alike_named_1 : DSt → Flow := fDrop (fUser F_must_be_ranking (fCons (fVar 1) fNil))
abbrev o_must_be_alike_named_1 : List PyData → DSt → Flow := loopF (bName 1) b_must_be_alike_named_1
def e_must_be_alike_named_2 : M R := fOp (lift2 eqO) (fCall sortedO (pCons (fVar 1) fNil)) (fCall sortedO (pCons (fOp (lift2 ixO) (fVar 0) (fC (.int 0))) fNil))
abbrev l_must_be_alike_named_2 : M R := fLc (fLstI (fVar 0)) (bName 1) fYes (e_must_be_alike_named_2) [1]
def p_must_be_alike_named : DSt → Flow := fseq (fFor (fLstI (fVar 0)) (bName 1) b_must_be_alike_named_1) (fIfS (fNot (fB (fCall allO (pCons (fLc (fLstI (fVar 0)) (bName 1) fYes (e_must_be_alike_named_2) [1]) fNil)))) (fRaise "NoFit") fnext)
def F_must_be_alike_named : List R → Pw → FRes := runF 2 1 p_must_be_alike_named
def p_unlike : DSt → Flow := fseq (fDrop (fUser F_must_be_alike_named (fCons (fLst (fCons (fVar 0) (fCons (fVar 1) fNil))) fNil))) (fRet (fUser F_many_unlike (fCons (fVar 0) (fCons (fVar 1) fNil))))
def F_unlike : List R → Pw → FRes := runF 2 2 p_unlike
def Rank (ns : List Int) : Prop := ns.Nodup ∧ (∀ x ∈ ns, 0 ≤ x) ∧ 0 < ns.length ∧ ns.length ≤ 10
@[simp] theorem is_number_int {n : Int} {w : Pw} : F_is_number [.val (.int n)] w = .ok (.val (.bool true)) w := by
  unfold F_is_number p_is_number
  simp -implicitDefEqProofs [x_runF]
/-! ### pairs of places -/
def places (n : Nat) : List (Nat × Nat) := (List.range n).flatMap fun k => (List.range (n - (k + 1))).map fun j => (k, k + 1 + j)
def plD (p : Nat × Nat) : PyData := .tuple [.int (p.1 : Int), .int (p.2 : Int)]
def pairsI (ns : List Int) : List (Int × Int) := (places ns.length).map fun p => (ns.getD p.1 0, ns.getD p.2 0)
def prD (p : Int × Int) : PyData := .tuple [.int p.1, .int p.2]
def manyI (one other : List Int) : Nat := ((pairsI one).filter fun p => !decide (other.idxOf p.1 < other.idxOf p.2)).length
end DL

noncomputable section
namespace DL
open PySem L2
def p_law_many : DSt → Flow := fRet (fOp (lift2 addO) (fC (.int 1)) (fUser F_law_draw (fCons (fVar 0) (fCons (fOp (lift2 ixO) (fLst (fCons (fC (.int 4)) (fCons (fC (.int 7)) (fCons (fC (.int 10)) fNil)))) (fUser F_law_draw (fCons (fVar 0) (fCons (fC (.int 3)) fNil)))) fNil))))
def F_law_many : List R → Pw → FRes := runF 1 1 p_law_many
def cntP (one other : List Int) (a b : Int) : Bool := decide (one.idxOf a < one.idxOf b ∧ other.idxOf b < other.idxOf a)
def cnt2 (one other : List Int) (a : Int) : Nat := (one.filter (cntP one other a)).length
/-! ### twofold sums -/
def dbl (l : List Int) (f : Int → Int → Nat) : Nat := (l.map fun x => (l.map (f x)).sum).sum
def ah (r : List Int) (x y : Int) : Bool := decide (r.idxOf x < r.idxOf y)
def uq (a b : List Int) (x y : Int) : Nat := if ah a x y = ah b x y then 0 else 1
end DL

noncomputable section
namespace DL
open PySem L2
def p_law_mix : DSt → Flow := fseq (fSet 2 (fOp (lift2 modO) (fOp (lift2 mulO) (fOp (lift2 addO) (fOp (lift2 addO) (fOp (lift2 mulO) (fVar 0) (fVar 0)) (fOp (lift2 mulO) (fVar 1) (fVar 0))) (fOp (lift2 mulO) (fOp (lift2 mulO) (fC (.int 7)) (fVar 1)) (fVar 1))) (fC (.int 1103515245))) (fC (.int 2147483629)))) (fRet (fOp (lift2 modO) (fOp (lift2 mulO) (fVar 2) (fVar 2)) (fC (.int 2147483587))))
def F_law_mix : List R → Pw → FRes := runF 3 2 p_law_mix
def p_law_left : DSt → Flow := fseq (fIfS (fB (fOp (lift2 ltO) (fVar 0) (fOp (lift2 powO) (fC (.int 10)) (fC (.int 18))))) (fRet (fLst (fCons (fOp (lift2 modO) (fVar 0) (fC (.int 2147483629))) (fCons (fC (.int 0)) (fCons (fC (.int 0)) fNil))))) fnext) (fRet (fLst (fCons (fOp (lift2 modO) (fOp (lift2 subO) (fVar 0) (fOp (lift2 powO) (fC (.int 10)) (fC (.int 18)))) (fOp (lift2 powO) (fOp (lift2 powO) (fOp (lift2 powO) (fC (.int 10)) (fC (.int 60))) (fC (.int 20))) (fC (.int 5)))) (fCons (fC (.int 1)) (fCons (fC (.int 0)) fNil)))))
def F_law_left : List R → Pw → FRes := runF 1 1 p_law_left
def p_law_draw_v3 : DSt → Flow := fseq (fSetC 0 (fOp (lift2 addO) (fIxC 0 (fC (.int 2))) (fC (.int 1))) (fC (.int 2))) (fseq (fIfS (fB (fOp (lift2 eqO) (fIxC 0 (fC (.int 1))) (fC (.int 0)))) (fseq (fSet 2 (fUser F_law_mix (fCons (fIxC 0 (fC (.int 0))) (fCons (fIxC 0 (fC (.int 2))) fNil)))) (fseq (fIfS (fB (fOp (lift2 gtO) (fVar 1) (fOp (lift2 powO) (fC (.int 10)) (fC (.int 9))))) (fRet (fOp (lift2 modO) (fOp (lift2 mulO) (fVar 2) (fOp (lift2 addO) (fOp (lift2 powO) (fUser F_law_mix (fCons (fIxC 0 (fC (.int 0))) (fCons (fOp (lift2 addO) (fIxC 0 (fC (.int 2))) (fC (.int 500))) fNil))) (fC (.int 3))) (fC (.int 1)))) (fVar 1))) fnext) (fRet (fOp (lift2 modO) (fOp (lift2 modO) (fOp (lift2 mulO) (fVar 2) (fOp (lift2 addO) (fVar 2) (fC (.int 2)))) (fC (.int 2147483579))) (fVar 1))))) fnext) (fseq (fSet 3 (fOp (lift2 modO) (fIxC 0 (fC (.int 0))) (fVar 1))) (fseq (fSetC 0 (fOp (lift2 fdivO) (fIxC 0 (fC (.int 0))) (fVar 1)) (fC (.int 0))) (fRet (fVar 3)))))
def F_law_draw_v3 : List R → Pw → FRes := runF 4 2 p_law_draw_v3
/-! family C: the list of numbers drawn from -/
def LP (pa : Addr) (w : Pw) (m : Int) : Prop := ∃ n g t : Int, w = some (pa, pa, [n, g, t], 0) ∧ 0 ≤ n ∧ (g = 0 → n < 2147483629) ∧ 0 ≤ t ∧ t ≤ m
theorem LP.mono {pa : Addr} {w : Pw} {m m' : Int} (h : LP pa w m) (h2 : m ≤ m') : LP pa w m' := by
  obtain ⟨n, g, t, e, h1, h3, h4, h5⟩ := h
  exact ⟨n, g, t, e, h1, h3, h4, by omega⟩
theorem mul_nn {a b A B : Int} (h0 : 0 ≤ a) (h1 : a < A) (h2 : 0 ≤ b) (h3 : b < B) : 0 ≤ a * b ∧ a * b < A * B := by
  have x1 := Int.mul_nonneg h0 h2
  have x2 : a * b ≤ a * B := Int.mul_le_mul_of_nonneg_left (by omega) h0
  have x3 : a * B < A * B := Int.mul_lt_mul_of_pos_right h1 (by omega)
  exact ⟨x1, by omega⟩
theorem mul_g {a b A B : Int} (h0 : 0 ≤ a) (h1 : a < A) (h2 : 0 ≤ b) (h3 : b < B) (hA : A ≤ 2 ^ 200) (hB : B ≤ 2 ^ 200) : ∃ c, mulO (.int a) (.int b) = some (.val (.int c)) ∧ 0 ≤ c ∧ c < A * B := by
  obtain ⟨x1, x2⟩ := mul_nn h0 h1 h2 h3
  exact ⟨a * b, mul_ok (by omega) (by omega) (by omega) (by omega), x1, x2⟩
theorem mix_ok {n k : Int} {w : Pw} (n0 : 0 ≤ n) (n1 : n < 2147483648) (k0 : 0 ≤ k) (k1 : k < 1099511627776) : ∃ r, F_law_mix [.val (.int (n)), .val (.int (k))] w = .ok (.val (.int (r))) w ∧ 0 ≤ r ∧ r < 2147483587 := by
  obtain ⟨a, ea, a0, a1⟩ := mul_g n0 n1 n0 n1 (by omega) (by omega)
  obtain ⟨b, eb, b0, b1⟩ := mul_g k0 k1 n0 n1 (by omega) (by omega)
  obtain ⟨c, ec, c0, c1⟩ := mul_g (a := 7) (A := 8) (by omega) (by omega) k0 k1 (by omega) (by omega)
  obtain ⟨d, ed, d0, d1⟩ := mul_g c0 c1 k0 k1 (by omega) (by omega)
  obtain ⟨x, ex, x0, x1⟩ := mul_g (a := a + b + d) (b := 1103515245) (A := 2 ^ 100) (B := 2 ^ 31) (by omega) (by omega) (by omega) (by omega) (by omega) (by omega)
  have y0 := Int.emod_nonneg x (by omega : (2147483629 : Int) ≠ 0)
  have y1 := Int.emod_lt_of_pos x (by omega : (0 : Int) < 2147483629)
  obtain ⟨y, hy⟩ : ∃ y, y = x % 2147483629 := ⟨_, rfl⟩
  rw [← hy] at y0 y1
  obtain ⟨z, ez, z0, z1⟩ := mul_g y0 y1 y0 y1 (by omega) (by omega)
  have r0 := Int.emod_nonneg z (by omega : (2147483587 : Int) ≠ 0)
  have r1 := Int.emod_lt_of_pos z (by omega : (0 : Int) < 2147483587)
  refine ⟨z % 2147483587, ?_, r0, r1⟩
  unfold F_law_mix p_law_mix
  simp only [x_runF]
  simp -implicitDefEqProofs [ea, eb, ec, ed, ex, ← hy, ez, mod_ok]
theorem big_pow : ∃ A : Int, 0 < A ∧ ∃ T U, powO (.int 10) (.int 60) = some (.val (.int T)) ∧ powO (.int T) (.int 20) = some (.val (.int U)) ∧ powO (.int U) (.int 5) = some (.val (.int A)) := by
  obtain ⟨t, e, t0, t1⟩ : ∃ t : Nat, powO (.int 10) (.int 60) = some (.val (.int (t : Int))) ∧ 0 < t ∧ t < 2 ^ 200 := by
    obtain ⟨n, hn⟩ : ∃ n : Nat, n = 60 := ⟨_, rfl⟩
    refine ⟨10 ^ n, ?_, Nat.pow_pos (by decide), by rw [hn]; decide +kernel⟩
    have e : powO (.int 10) (.int 60) = some (.val (.int (10 ^ n))) := by
      rw [hn]
      exact pow_ok (by omega) (by omega) (by omega) (by omega)
    rw [e]
    congr 3
  have u0 : 0 < t ^ 20 := Nat.pow_pos t0
  have u1 : t ^ 20 < 2 ^ 4000 := by
    have := Nat.pow_lt_pow_left t1 (by decide : (20 : Nat) ≠ 0)
    rwa [← Nat.pow_mul] at this
  have lt : lgP (t : Int) := by
    unfold lgP
    rw [Int.natAbs_natCast]
    have := (Nat.log2_lt (n := t) (k := 200) (by omega)).mpr t1
    omega
  have e2 : powO (.int (t : Int)) (.int 20) = some (.val (.int ((t ^ 20 : Nat) : Int))) := by
    rw [x_pow, if_pos ⟨by decide, by unfold leP; decide, lt⟩]
    congr 3
  obtain ⟨u, hu⟩ : ∃ u, u = t ^ 20 := ⟨_, rfl⟩
  rw [← hu] at u0 u1 e2
  have lu : lgP (u : Int) := by
    unfold lgP
    rw [Int.natAbs_natCast]
    exact (Nat.log2_lt (n := u) (k := 4000) (by omega)).mpr u1
  have e3 : powO (.int (u : Int)) (.int 5) = some (.val (.int ((u : Int) ^ (5 : Int).toNat))) := by
    rw [x_pow, if_pos ⟨by decide, by unfold leP; decide, lu⟩]
  exact ⟨_, Int.pow_pos (by omega), _, _, e, e2, e3⟩
theorem left_ok {c : Int} {w : Pw} : ∃ n g : Int, F_law_left [.val (.int (c))] w = .ok (.new [.int n, .int g, .int 0]) w ∧ 0 ≤ n ∧ (g = 0 → n < 2147483629) := by
  obtain ⟨A, A0, T, U, e1, e2, e3⟩ := big_pow
  by_cases h : c < 1000000000000000000
  · refine ⟨c % 2147483629, 0, ?_, Int.emod_nonneg _ (by omega), fun _ => Int.emod_lt_of_pos _ (by omega)⟩
    unfold F_law_left p_law_left
    simp only [x_runF]
    simp -implicitDefEqProofs [h]
  · refine ⟨(c - 1000000000000000000) % A, 1, ?_, Int.emod_nonneg _ (by omega), fun z => by cases z⟩
    unfold F_law_left p_law_left
    simp only [x_runF]
    simp -implicitDefEqProofs [h, z18, e1, e2, e3, mod_ok A0, -pow_ok]
theorem draw2_ok {pa : Addr} {w : Pw} {m b : Int} (h : LP pa w m) (b0 : 0 < b) (b1 : b < 2 ^ 100) (hm : m < 2 ^ 38) : ∃ r w', F_law_draw_v3 [.raw (.ref pa), .val (.int (b))] w = .ok (.val (.int (r))) w' ∧ 0 ≤ r ∧ r < b ∧ LP pa w' (m + 1) := by
  obtain ⟨n, g, t, rfl, n0, n1, t0, t1⟩ := h
  have r0 : ∀ x : Int, 0 ≤ x % b := fun x => Int.emod_nonneg x (by omega)
  have r1 : ∀ x : Int, x % b < b := fun x => Int.emod_lt_of_pos x b0
  have em : ∀ x : Int, modO (.int x) (.int b) = some (.val (.int (x % b))) := fun x => mod_ok b0
  have ed : ∀ x : Int, fdivO (.int x) (.int b) = some (.val (.int (x / b))) := fun x => fdiv_ok b0 (by omega)
  have i2 : ixN 3 2 = some 2 := rfl
  have i0 : ixN 3 0 = some 0 := rfl
  have z9 : powO (.int 10) (.int 9) = some (.val (.int 1000000000)) := by simp
  by_cases hg : g = 0
  · subst hg
    have n1 := n1 rfl
    obtain ⟨x, e1, x0, x1⟩ := mix_ok (n := n) (k := t + 1) (w := some (pa, pa, [n, 0, t + 1], 0)) n0 (by omega) (by omega) (by omega)
    have lp : LP pa (some (pa, pa, [n, 0, t + 1], 0)) (m + 1) := ⟨n, 0, t + 1, rfl, n0, fun _ => n1, by omega, by omega⟩
    by_cases hb : 1000000000 < b
    · obtain ⟨y, e2, y0, y1⟩ := mix_ok (n := n) (k := t + 1 + 500) (w := some (pa, pa, [n, 0, t + 1], 0)) n0 (by omega) (by omega) (by omega)
      have e3 : powO (.int y) (.int 3) = some (.val (.int (y ^ 3))) := pow_ok (by omega) (by omega) (by omega) (by omega)
      obtain ⟨q0, q1⟩ := mul_nn y0 y1 y0 y1
      obtain ⟨q2, q3⟩ := mul_nn q0 q1 y0 y1
      have ey : y ^ 3 = y * y * y := by rw [Int.pow_succ, Int.pow_succ, Int.pow_succ, Int.pow_zero, Int.one_mul]
      rw [← ey] at q2 q3
      obtain ⟨p, hp⟩ : ∃ p, p = y ^ 3 := ⟨_, rfl⟩
      rw [← hp] at q2 q3 e3
      obtain ⟨z, e4, z0, z1⟩ := mul_g (a := x) (b := p + 1) (A := 2 ^ 31) (B := 2 ^ 94) x0 (by omega) (by omega) (by omega) (by omega) (by omega)
      refine ⟨z % b, _, ?_, r0 _, r1 _, lp⟩
      unfold F_law_draw_v3 p_law_draw_v3
      simp only [x_runF]
      simp -implicitDefEqProofs [i2, i0, z9, e1, hb, e2, e3, e4, em, -pow_ok]
    · obtain ⟨z, e4, z0, z1⟩ := mul_g (a := x) (b := x + 2) (A := 2 ^ 31) (B := 2 ^ 32) x0 (by omega) (by omega) (by omega) (by omega) (by omega)
      refine ⟨z % 2147483579 % b, _, ?_, r0 _, r1 _, lp⟩
      unfold F_law_draw_v3 p_law_draw_v3
      simp only [x_runF]
      simp -implicitDefEqProofs [i2, i0, z9, e1, hb, e4, em]
  · have d0 : 0 ≤ n / b := Int.ediv_nonneg n0 (by omega)
    refine ⟨n % b, some (pa, pa, [n / b, g, t + 1], 0), ?_, r0 _, r1 _, ⟨n / b, g, t + 1, rfl, d0, fun z => (hg z).elim, by omega, by omega⟩⟩
    unfold F_law_draw_v3 p_law_draw_v3
    simp only [x_runF]
    simp -implicitDefEqProofs [i2, i0, hg, em, ed]

end DL

noncomputable section
namespace DL
open PySem L2

/-! lists of lists in order -/
def llD (x : List Int) : PyData := .list (x.map .int)
def leLL (a b : List Int) : Bool := PySem.W.sortLe (PyProof.Rows.listOrd PyProof.Rows.itemOrd) false PySem.W.keyToks (llD a) (llD b)
def sortLL (ls : List (List Int)) : List (List Int) := ls.mergeSort leLL
end DL

noncomputable section
namespace DL
open PySem L2
def b_law_names_v6_1 : DSt → Flow := fseq (fSet 4 (fOp (lift2 addO) (fOp (lift2 addO) (fVar 4) (fC (.int 1))) (fUser F_law_draw_v3 (fCons (fVar 0) (fCons (fVar 2) fNil))))) (fDrop (fApp 3 (fVar 4)))
abbrev o_law_names_v6_1 : List PyData → DSt → Flow := loopF (bName 5) b_law_names_v6_1
def p_law_names_v6 : DSt → Flow := fseq (fSet 2 (fOp (lift2 ixO) (fLst (fCons (fC (.int 1)) (fCons (fC (.int 1)) (fCons (fC (.int 3)) (fCons (fOp (lift2 powO) (fC (.int 10)) (fC (.int 9))) fNil))))) (fUser F_law_draw_v3 (fCons (fVar 0) (fCons (fC (.int 4)) fNil))))) (fseq (fSet 3 (fLst fNil)) (fseq (fSet 4 (fUn (lift1 negO) (fC (.int 1)))) (fseq (fFor (fRng1 (pCons (fVar 1) fNil)) (bName 5) b_law_names_v6_1) (fRet (fVar 3)))))
def F_law_names_v6 : List R → Pw → FRes := runF 6 2 p_law_names_v6
def b_law_shuffled_v3_1 : DSt → Flow := fDrop (fIns 2 (fCons (fUser F_law_draw_v3 (fCons (fVar 0) (fCons (fOp (lift2 addO) (fCall lenO (pCons (fVar 2) fNil)) (fC (.int 1))) fNil))) (fCons (fVar 3) fNil)))
abbrev o_law_shuffled_v3_1 : List PyData → DSt → Flow := loopF (bName 3) b_law_shuffled_v3_1
def p_law_shuffled_v3 : DSt → Flow := fseq (fSet 2 (fLst fNil)) (fseq (fFor (fLstI (fVar 1)) (bName 3) b_law_shuffled_v3_1) (fRet (fVar 2)))
def F_law_shuffled_v3 : List R → Pw → FRes := runF 4 2 p_law_shuffled_v3
def b_law_tree_v2_1 : DSt → Flow := fseq (fSet 6 (fOp (lift2 ixO) (fVar 2) (fOp (lift2 ixO) (fLst (fCons (fUser F_law_draw_v3 (fCons (fVar 0) (fCons (fVar 5) fNil))) (fCons (fOp (lift2 subO) (fVar 5) (fC (.int 1))) (fCons (fC (.int 0)) fNil)))) (fVar 3)))) (fDrop (fApp 4 (fTup (fCons (fCall minO (pCons (fOp (lift2 ixO) (fVar 2) (fVar 5)) (pCons (fVar 6) fNil))) (fCons (fCall maxO (pCons (fOp (lift2 ixO) (fVar 2) (fVar 5)) (pCons (fVar 6) fNil))) fNil)))))
abbrev o_law_tree_v2_1 : List PyData → DSt → Flow := loopF (bName 5) b_law_tree_v2_1
def p_law_tree_v2 : DSt → Flow := fseq (fSet 2 (fUser F_law_shuffled_v3 (fCons (fVar 0) (fCons (fVar 1) fNil)))) (fseq (fSet 3 (fUser F_law_draw_v3 (fCons (fVar 0) (fCons (fC (.int 3)) fNil)))) (fseq (fSet 4 (fLst fNil)) (fseq (fFor (fRng2 (pCons (fC (.int 1)) (pCons (fCall lenO (pCons (fVar 2) fNil)) fNil))) (bName 5) b_law_tree_v2_1) (fRet (fCall sortedO (pCons (fVar 4) fNil))))))
def F_law_tree_v2 : List R → Pw → FRes := runF 7 2 p_law_tree_v2
/-! ### ties in order -/
def tieP (a b : Int) : Int × Int := (min a b, max a b)
def lePr (p q : Int × Int) : Bool := PySem.W.sortLe (PyProof.Rows.listOrd PyProof.Rows.itemOrd) false PySem.W.keyToks (prT p) (prT q)
def sortPr (ps : List (Int × Int)) : List (Int × Int) := ps.mergeSort lePr
def GenT (N : List Int) (T : List (Int × Int)) : Prop := ∃ (L : List Int) (f : Nat → Nat), L.Perm N ∧ (∀ k, 0 < k → k < L.length → f k < k) ∧ T = sortPr ((List.range' 1 (L.length - 1)).map fun k => tieP (L.getD k 0) (L.getD (f k) 0))
end DL

noncomputable section
namespace DL
open PySem L2
def t_reached_1 : M Bool := fB (fOp (lift2 notInO) (fVar 7) (fVar 3))
def e_reached_2 : M R := fVar 7
abbrev l_reached_2 : M R := fLc (fTupI (fTup (fCons (fVar 5) (fCons (fVar 6) fNil)))) (bName 7) (t_reached_1) (e_reached_2) [7]
def b_reached_3 : DSt → Flow := fIfS (fAnd (fB (fOp (lift2 inO) (fVar 5) (fVar 1))) (fAnd (fB (fOp (lift2 inO) (fVar 6) (fVar 1))) (fB (fOp (lift2 neO) (fOp (lift2 inO) (fVar 5) (fVar 3)) (fOp (lift2 inO) (fVar 6) (fVar 3)))))) (fSet 3 (fOp (lift2 addO) (fVar 3) (fLc (fTupI (fTup (fCons (fVar 5) (fCons (fVar 6) fNil)))) (bName 7) (t_reached_1) (e_reached_2) [7]))) fnext
abbrev o_reached_3 : List PyData → DSt → Flow := loopF (bTup 2 (bCons (bName 5) (bCons (bName 6) bNil))) b_reached_3
def c_reached_4 : M Bool := fB (fOp (lift2 ltO) (fVar 4) (fCall lenO (pCons (fVar 3) fNil)))
def b_reached_5 : DSt → Flow := fseq (fSet 4 (fCall lenO (pCons (fVar 3) fNil))) (fFor (fLstI (fVar 0)) (bTup 2 (bCons (bName 5) (bCons (bName 6) bNil))) b_reached_3)
abbrev o_reached_5 : DSt → Flow := whileF c_reached_4 b_reached_5 10000
def p_reached : DSt → Flow := fseq (fSet 3 (fLst (fCons (fVar 2) fNil))) (fseq (fSet 4 (fC (.int 0))) (fseq (whileF c_reached_4 b_reached_5 10000) (fRet (fVar 3))))
def F_reached : List R → Pw → FRes := runF 8 3 p_reached
def p_hang_together : DSt → Flow := fRet (fOp (lift2 eqO) (fCall lenO (pCons (fUser F_reached (fCons (fVar 0) (fCons (fVar 1) (fCons (fOp (lift2 ixO) (fVar 1) (fC (.int 0))) fNil)))) fNil)) (fCall lenO (pCons (fVar 1) fNil)))
def F_hang_together : List R → Pw → FRes := runF 2 2 p_hang_together
def t_law_together_1 : M Bool := fB (fOp (lift2 notInO) (fVar 6) (fVar 2))
def e_law_together_2 : M R := fVar 6
abbrev l_law_together_2 : M R := fLc (fTupI (fTup (fCons (fVar 4) (fCons (fVar 5) fNil)))) (bName 6) (t_law_together_1) (e_law_together_2) [6]
def b_law_together_3 : DSt → Flow := fIfS (fAnd (fB (fOp (lift2 inO) (fVar 4) (fVar 1))) (fAnd (fB (fOp (lift2 inO) (fVar 5) (fVar 1))) (fB (fOp (lift2 neO) (fOp (lift2 inO) (fVar 4) (fVar 2)) (fOp (lift2 inO) (fVar 5) (fVar 2)))))) (fSet 2 (fOp (lift2 addO) (fVar 2) (fLc (fTupI (fTup (fCons (fVar 4) (fCons (fVar 5) fNil)))) (bName 6) (t_law_together_1) (e_law_together_2) [6]))) fnext
abbrev o_law_together_3 : List PyData → DSt → Flow := loopF (bTup 2 (bCons (bName 4) (bCons (bName 5) bNil))) b_law_together_3
def b_law_together_4 : DSt → Flow := fFor (fLstI (fVar 0)) (bTup 2 (bCons (bName 4) (bCons (bName 5) bNil))) b_law_together_3
abbrev o_law_together_4 : List PyData → DSt → Flow := loopF (bName 3) b_law_together_4
def p_law_together : DSt → Flow := fseq (fSet 2 (fSlice (fVar 1) fNoPart (fPart (fC (.int 1))))) (fseq (fFor (fRng1 (pCons (fCall lenO (pCons (fVar 1) fNil)) fNil)) (bName 3) b_law_together_4) (fRet (fOp (lift2 eqO) (fCall lenO (pCons (fVar 2) fNil)) (fCall lenO (pCons (fVar 1) fNil)))))
def F_law_together : List R → Pw → FRes := runF 7 2 p_law_together
/-! what hangs together -/
def stepT (some : List Int) (found : List Int) (p : Int × Int) : List Int := if p.1 ∈ some ∧ p.2 ∈ some ∧ ¬ ((p.1 ∈ found) ↔ (p.2 ∈ found)) then found ++ [p.1, p.2].filter (fun x => decide (x ∉ found)) else found
def passT (ties : List (Int × Int)) (some found : List Int) : List Int := ties.foldl (stepT some) found
def itT (ties : List (Int × Int)) (some found : List Int) : Nat → List Int
  | 0 => found
  | n + 1 => passT ties some (itT ties some found n)
def clT (ties : List (Int × Int)) (some : List Int) (x : Int) : List Int := itT ties some [x] some.length
def OkF (some found : List Int) : Prop := found.Nodup ∧ ∀ x ∈ found, x ∈ some
/-! ### the walks -/
end DL

noncomputable section
namespace DL
open PySem L2

@[simp] theorem x_isT_dict {kvs : List (PyData × PyData)} {m : String} : isT m (.dict kvs) = (m == "dict") := by simp [isT, isN, tyN]
def isI : PyData → Bool | .int _ => true | _ => false
def nameB : PyData → Bool | .int n => decide (0 ≤ n) | _ => false
/-! ### what is a list of unlike names -/
def unlikeB : PyData → Bool
  | .list ds => match intsD ds with
    | some ns => decide (ns.Nodup ∧ ∀ x ∈ ns, 0 ≤ x)
    | none => false
  | _ => false
def lenOk (d : PyData) : Prop := match d with | .list ds => ds.length ≤ 4000 | _ => True
instance (ns : List Int) : Decidable (Rank ns) := Classical.propDecidable _
def rankB : PyData → Bool
  | .list ds => match intsD ds with
    | some ns => decide (Rank ns)
    | none => false
  | _ => false
end DL

noncomputable section
namespace DL
open PySem L2

/-! ### falling along a line: the plain law -/
def cvx (L Q : List Int) : Prop := ∀ u ∈ Q, ∀ v ∈ Q, ∀ t ∈ L, L.idxOf u < L.idxOf t → L.idxOf t < L.idxOf v → t ∈ Q
def noV (L r : List Int) : Prop := ∀ u ∈ L, ∀ t ∈ L, ∀ v ∈ L, L.idxOf u < L.idxOf t → L.idxOf t < L.idxOf v → ¬ (r.idxOf u < r.idxOf t ∧ r.idxOf v < r.idxOf t)
def goB (ok : List Int → Int → Bool) : List Int → List Int → Bool
  | _, [] => true
  | Q, a :: l => ok Q a && goB ok (Q ++ [a]) l
/-! least and greatest places -/
def plI (L : List Int) (x : Int) : Int := (L.idxOf x : Nat)
def ok1 (L : List Int) (Q : List Int) (a : Int) : Bool := decide (plI L a = minI (Q.map (plI L)) - 1) || decide (plI L a = maxI (Q.map (plI L)) + 1)
def ok2 (L : List Int) (Q : List Int) (a : Int) : Bool := decide (maxI ((Q ++ [a]).map (plI L)) - minI ((Q ++ [a]).map (plI L)) = ((Q ++ [a]).length : Int) - 1)
end DL

noncomputable section
namespace DL
open PySem L2

/-! rankings that fall, taken from the ends -/
def pick : List Int → List Bool → List Int
  | L, [] => L
  | L, b :: bs => match b with
    | false => L.take 1 ++ pick (L.drop 1) bs
    | true => L.drop (L.length - 1) ++ pick L.dropLast bs
/-! bits and numbers -/
def valA : Nat → List Bool → Nat
  | c, [] => c
  | c, b :: bs => valA (2 * c + b.toNat) bs
def bitsN : Nat → Nat → List Bool
  | 0, _ => []
  | k + 1, n => decide (2 ^ k ≤ n) :: bitsN k (n % 2 ^ k)
end DL

noncomputable section
namespace DL
open PySem L2
def e_cut_down_1 : M R := fOp (lift2 inO) (fVar 2) (fVar 0)
abbrev l_cut_down_1 : M R := fLc (fLstI (fVar 1)) (bName 2) fYes (e_cut_down_1) [2]
def t_cut_down_2 : M Bool := fB (fOp (lift2 inO) (fVar 2) (fVar 1))
def e_cut_down_3 : M R := fVar 2
abbrev l_cut_down_3 : M R := fLc (fLstI (fVar 0)) (bName 2) (t_cut_down_2) (e_cut_down_3) [2]
def p_cut_down : DSt → Flow := fseq (fDrop (fUser F_must_be_ranking (fCons (fVar 0) fNil))) (fseq (fIfS (fOr (fB (fOp (lift2 ltO) (fCall lenO (pCons (fVar 1) fNil)) (fC (.int 1)))) (fNot (fB (fCall allO (pCons (fLc (fLstI (fVar 1)) (bName 2) fYes (e_cut_down_1) [2]) fNil))))) (fRaise "NoNames") fnext) (fRet (fLc (fLstI (fVar 0)) (bName 2) (t_cut_down_2) (e_cut_down_3) [2])))
def F_cut_down : List R → Pw → FRes := runF 3 2 p_cut_down
/-! cutting down -/
def cutL (r some : List Int) : List Int := r.filter fun x => decide (x ∈ some)
end DL

noncomputable section
namespace DL
open PySem L2

/-! what falls is taken from the ends -/
end DL

noncomputable section
namespace DL
open PySem L2
def p_is_line : DSt → Flow := fRet (fUser F_is_ranking (fCons (fVar 0) fNil))
def F_is_line : List R → Pw → FRes := runF 1 1 p_is_line
def p_must_be_line : DSt → Flow := fIfS (fNot (fB (fUser F_is_line (fCons (fVar 0) fNil)))) (fRaise "NoLine") fnext
def F_must_be_line : List R → Pw → FRes := runF 1 1 p_must_be_line
def p_must_be_on : DSt → Flow := fseq (fDrop (fUser F_must_be_line (fCons (fVar 0) fNil))) (fseq (fDrop (fUser F_must_be_ranking (fCons (fVar 1) fNil))) (fIfS (fB (fOp (lift2 neO) (fCall sortedO (pCons (fVar 0) fNil)) (fCall sortedO (pCons (fVar 1) fNil)))) (fRaise "NoFit") fnext))
def F_must_be_on : List R → Pw → FRes := runF 2 2 p_must_be_on
def b_does_fall_1 : DSt → Flow := fseq (fSet 5 (fIndex (fVar 0) (fVar 4))) (fseq (fIfS (fAnd (fB (fOp (lift2 neO) (fVar 5) (fOp (lift2 subO) (fVar 2) (fC (.int 1))))) (fB (fOp (lift2 neO) (fVar 5) (fOp (lift2 addO) (fVar 3) (fC (.int 1)))))) (fRet (fC (.bool false))) fnext) (fseq (fSet 2 (fCall minO (pCons (fVar 2) (pCons (fVar 5) fNil)))) (fSet 3 (fCall maxO (pCons (fVar 3) (pCons (fVar 5) fNil))))))
abbrev o_does_fall_1 : List PyData → DSt → Flow := loopF (bName 4) b_does_fall_1
def p_does_fall : DSt → Flow := fseq (fSet 2 (fIndex (fVar 0) (fOp (lift2 ixO) (fVar 1) (fC (.int 0))))) (fseq (fSet 3 (fVar 2)) (fseq (fFor (fLstI (fSlice (fVar 1) (fPart (fC (.int 1))) fNoPart)) (bName 4) b_does_fall_1) (fRet (fC (.bool true)))))
def F_does_fall : List R → Pw → FRes := runF 6 2 p_does_fall
def p_falls : DSt → Flow := fseq (fDrop (fUser F_must_be_on (fCons (fVar 0) (fCons (fVar 1) fNil)))) (fRet (fUser F_does_fall (fCons (fVar 0) (fCons (fVar 1) fNil))))
def F_falls : List R → Pw → FRes := runF 2 2 p_falls
def b_law_falls_1 : DSt → Flow := fseq (fDrop (fApp 2 (fIndex (fVar 0) (fVar 3)))) (fIfS (fB (fOp (lift2 neO) (fOp (lift2 subO) (fCall maxO (pCons (fVar 2) fNil)) (fCall minO (pCons (fVar 2) fNil))) (fOp (lift2 subO) (fCall lenO (pCons (fVar 2) fNil)) (fC (.int 1))))) (fRet (fC (.bool false))) fnext)
abbrev o_law_falls_1 : List PyData → DSt → Flow := loopF (bName 3) b_law_falls_1
def p_law_falls : DSt → Flow := fseq (fSet 2 (fLst fNil)) (fseq (fFor (fLstI (fVar 1)) (bName 3) b_law_falls_1) (fRet (fC (.bool true))))
def F_law_falls : List R → Pw → FRes := runF 4 2 p_law_falls
def c_law_falling_1 : M Bool := fB (fOp (lift2 neO) (fVar 2) (fLst fNil))
def b_law_falling_2 : DSt → Flow := fDrop (fApp 3 (fPopAt 2 (fOp (lift2 mulO) (fOp (lift2 subO) (fCall lenO (pCons (fVar 2) fNil)) (fC (.int 1))) (fUser F_law_draw (fCons (fVar 0) (fCons (fC (.int 2)) fNil))))))
abbrev o_law_falling_2 : DSt → Flow := whileF c_law_falling_1 b_law_falling_2 10000
def p_law_falling : DSt → Flow := fseq (fSet 2 (fCall listO (pCons (fVar 1) fNil))) (fseq (fSet 3 (fLst fNil)) (fseq (whileF c_law_falling_1 b_law_falling_2 10000) (fRet (fUn (lift1 revO) (fVar 3)))))
def F_law_falling : List R → Pw → FRes := runF 4 2 p_law_falling
def fallB (L r : List Int) : Bool := @decide (noV L r) (Classical.propDecidable _)
end DL

noncomputable section
namespace DL
open PySem L2
def e_grown_1 : M R := fOp (lift2 addO) (fLst (fCons (fVar 2) fNil)) (fVar 3)
abbrev l_grown_1 : M R := fLc (fLstI (fVar 1)) (bName 3) fYes (e_grown_1) [3]
def e_grown_2 : M R := fOp (lift2 addO) (fVar 3) (fLst (fCons (fVar 2) fNil))
abbrev l_grown_2 : M R := fLc (fLstI (fVar 1)) (bName 3) fYes (e_grown_2) [3]
def b_grown_3 : DSt → Flow := fSet 1 (fOp (lift2 addO) (fLc (fLstI (fVar 1)) (bName 3) fYes (e_grown_1) [3]) (fLc (fLstI (fVar 1)) (bName 3) fYes (e_grown_2) [3]))
abbrev o_grown_3 : List PyData → DSt → Flow := loopF (bName 2) b_grown_3
def p_grown : DSt → Flow := fseq (fSet 1 (fLst (fCons (fSlice (fVar 0) fNoPart (fPart (fC (.int 1)))) fNil))) (fseq (fFor (fLstI (fSlice (fVar 0) (fPart (fC (.int 1))) fNoPart)) (bName 2) b_grown_3) (fRet (fCall sortedO (pCons (fVar 1) fNil))))
def F_grown : List R → Pw → FRes := runF 4 1 p_grown
def e_is_folk_1 : M R := fUser F_is_ranking (fCons (fVar 1) fNil)
abbrev l_is_folk_1 : M R := fLc (fLstI (fVar 0)) (bName 1) fYes (e_is_folk_1) [1]
def e_is_folk_2 : M R := fOp (lift2 eqO) (fCall sortedO (pCons (fVar 1) fNil)) (fCall sortedO (pCons (fOp (lift2 ixO) (fVar 0) (fC (.int 0))) fNil))
abbrev l_is_folk_2 : M R := fLc (fLstI (fVar 0)) (bName 1) fYes (e_is_folk_2) [1]
def p_is_folk : DSt → Flow := fseq (fIfS (fOr (fNot (fB (fIsi "list" (fVar 0)))) (fOr (fB (fOp (lift2 ltO) (fCall lenO (pCons (fVar 0) fNil)) (fC (.int 1)))) (fB (fOp (lift2 gtO) (fCall lenO (pCons (fVar 0) fNil)) (fC (.int 20)))))) (fRet (fC (.bool false))) fnext) (fseq (fIfS (fNot (fB (fCall allO (pCons (fLc (fLstI (fVar 0)) (bName 1) fYes (e_is_folk_1) [1]) fNil)))) (fRet (fC (.bool false))) fnext) (fRet (fCall allO (pCons (fLc (fLstI (fVar 0)) (bName 1) fYes (e_is_folk_2) [1]) fNil))))
def F_is_folk : List R → Pw → FRes := runF 2 1 p_is_folk
def p_must_be_folk : DSt → Flow := fIfS (fNot (fB (fUser F_is_folk (fCons (fVar 0) fNil)))) (fRaise "NoFolk") fnext
def F_must_be_folk : List R → Pw → FRes := runF 1 1 p_must_be_folk
def e_lines_for_1 : M R := fUser F_does_fall (fCons (fVar 1) (fCons (fVar 2) fNil))
abbrev l_lines_for_1 : M R := fLc (fLstI (fVar 0)) (bName 2) fYes (e_lines_for_1) [2]
def t_lines_for_2 : M Bool := fB (fCall allO (pCons (fLc (fLstI (fVar 0)) (bName 2) fYes (e_lines_for_1) [2]) fNil))
def e_lines_for_3 : M R := fVar 1
abbrev l_lines_for_3 : M R := fLc (fLstI (fUser F_grown (fCons (fOp (lift2 ixO) (fVar 0) (fC (.int 0))) fNil))) (bName 1) (t_lines_for_2) (e_lines_for_3) [1]
def p_lines_for : DSt → Flow := fRet (fLc (fLstI (fUser F_grown (fCons (fOp (lift2 ixO) (fVar 0) (fC (.int 0))) fNil))) (bName 1) (t_lines_for_2) (e_lines_for_3) [1])
def F_lines_for : List R → Pw → FRes := runF 3 1 p_lines_for
def p_all_lines : DSt → Flow := fseq (fDrop (fUser F_must_be_folk (fCons (fVar 0) fNil))) (fRet (fUser F_lines_for (fCons (fVar 0) fNil)))
def F_all_lines : List R → Pw → FRes := runF 1 1 p_all_lines
/-! lines made from the best name outwards -/
def grS (F : List (List Int)) (a : Int) : List (List Int) := F.map (fun l => a :: l) ++ F.map fun l => l ++ [a]
def grL (r : List Int) : List (List Int) := (r.drop 1).foldl grS [r.take 1]
def grownL (r : List Int) : List (List Int) := sortLL (grL r)
end DL

noncomputable section
namespace DL
open PySem L2

def Folk (f : List (List Int)) : Prop := 0 < f.length ∧ f.length ≤ 20 ∧ ∀ r ∈ f, Rank r ∧ ∀ q ∈ f, q.Perm r
def linesF (f : List (List Int)) : List (List Int) := (grownL (f.headD [])).filter fun ℓ => f.all fun r => fallB ℓ r
end DL

noncomputable section
namespace DL
open PySem L2

def bdd : Nat → PyData → Prop
  | _, .none | _, .bool _ | _, .int _ | _, .str _ => True
  | n + 1, .list ds => ds.length ≤ 1000 ∧ ∀ d ∈ ds, bdd n d
  | n + 1, .tuple ds => ds.length ≤ 1000 ∧ ∀ d ∈ ds, bdd n d
  | _, _ => False
@[simp] theorem bdd_none {n : Nat} : bdd n .none := by cases n <;> simp [bdd]
@[simp] theorem bdd_bool {n : Nat} {b : Bool} : bdd n (.bool b) := by cases n <;> simp [bdd]
@[simp] theorem bdd_int {n : Nat} {b : Int} : bdd n (.int b) := by cases n <;> simp [bdd]
@[simp] theorem bdd_str {n : Nat} {b : Str} : bdd n (.str b) := by cases n <;> simp [bdd]
@[simp] theorem bdd_list {n : Nat} {ds : List PyData} : bdd (n + 1) (.list ds) ↔ ds.length ≤ 1000 ∧ ∀ d ∈ ds, bdd n d := by simp [bdd]
@[simp] theorem bdd_tuple {n : Nat} {ds : List PyData} : bdd (n + 1) (.tuple ds) ↔ ds.length ≤ 1000 ∧ ∀ d ∈ ds, bdd n d := by simp [bdd]
theorem bdd_up : ∀ {n m : Nat} {d : PyData}, n ≤ m → bdd n d → bdd m d
  | n, m, .none, _, _ => by simp
  | n, m, .bool _, _, _ => by simp
  | n, m, .int _, _, _ => by simp
  | n, m, .str _, _, _ => by simp
  | n + 1, m + 1, .list ds, h, b => by
    rw [bdd_list] at b ⊢
    exact ⟨b.1, fun d hd => bdd_up (by omega) (b.2 d hd)⟩
  | n + 1, m + 1, .tuple ds, h, b => by
    rw [bdd_tuple] at b ⊢
    exact ⟨b.1, fun d hd => bdd_up (by omega) (b.2 d hd)⟩
  | 0, _, .list ds, _, b => by unfold bdd at b; exact b.elim
  | 0, _, .tuple ds, _, b => by unfold bdd at b; exact b.elim
  | 0, _, .dict _, _, b => by unfold bdd at b; exact b.elim
  | _ + 1, _, .dict _, _, b => by unfold bdd at b; exact b.elim
  | _ + 1, 0, .list _, h, _ => by omega
  | _ + 1, 0, .tuple _, h, _ => by omega
theorem plainAll_of {ds : List PyData} (h : ∀ d ∈ ds, d.plain = true) : PyData.plainAll ds = true := by
  induction ds with
  | nil => rfl
  | cons d ds ih => simp [PyData.plainAll, h d List.mem_cons_self, ih fun d hd => h d (List.mem_cons_of_mem _ hd)]
theorem bdd_plain : ∀ {n : Nat} {d : PyData}, bdd n d → d.plain = true
  | _, .none, _ | _, .bool _, _ | _, .int _, _ | _, .str _, _ => rfl
  | n + 1, .list ds, b => by
    rw [bdd_list] at b
    simp only [PyData.plain]
    exact plainAll_of fun d hd => bdd_plain (b.2 d hd)
  | n + 1, .tuple ds, b => by
    rw [bdd_tuple] at b
    simp only [PyData.plain]
    exact plainAll_of fun d hd => bdd_plain (b.2 d hd)
  | 0, .list ds, b => by unfold bdd at b; exact b.elim
  | 0, .tuple ds, b => by unfold bdd at b; exact b.elim
  | 0, .dict _, b => by unfold bdd at b; exact b.elim
  | _ + 1, .dict _, b => by unfold bdd at b; exact b.elim
theorem bdd_dep : ∀ {n : Nat} {d : PyData}, bdd n d → d.depth ≤ n
  | _, .none, _ | _, .bool _, _ | _, .int _, _ | _, .str _, _ => by simp [PyData.depth]
  | n + 1, .list ds, b => by
    rw [bdd_list] at b
    have : PyData.depthAll ds ≤ n := depthAll_le.mpr fun d hd => bdd_dep (b.2 d hd)
    simp [PyData.depth]
    omega
  | n + 1, .tuple ds, b => by
    rw [bdd_tuple] at b
    have : PyData.depthAll ds ≤ n := depthAll_le.mpr fun d hd => bdd_dep (b.2 d hd)
    simp [PyData.depth]
    omega
  | 0, .list ds, b => by unfold bdd at b; exact b.elim
  | 0, .tuple ds, b => by unfold bdd at b; exact b.elim
  | 0, .dict _, b => by unfold bdd at b; exact b.elim
  | _ + 1, .dict _, b => by unfold bdd at b; exact b.elim
theorem neO_self {n : Nat} {d : PyData} (b : bdd n d) (hn : n ≤ 60) : neO d d = some (.val (.bool false)) := by
  unfold neO
  have := bdd_dep b
  rw [if_pos (by rw [Nat.min_self]; omega), PySem.SeqAt.eqv_refl_plain d (bdd_plain b)]
  rfl
/-! ### a folk -/
def folkB (d : PyData) : Bool := @decide (∃ f : List (List Int), d = .list (f.map llD) ∧ Folk f) (Classical.propDecidable _)
end DL

noncomputable section
namespace DL
open PySem L2
def p_is_tie : DSt → Flow := fseq (fIfS (fOr (fNot (fB (fIsi "tuple" (fVar 1)))) (fOr (fB (fOp (lift2 neO) (fCall lenO (pCons (fVar 1) fNil)) (fC (.int 2)))) (fOr (fNot (fB (fUser F_is_number (fCons (fOp (lift2 ixO) (fVar 1) (fC (.int 0))) fNil)))) (fNot (fB (fUser F_is_number (fCons (fOp (lift2 ixO) (fVar 1) (fC (.int 1))) fNil))))))) (fRet (fC (.bool false))) fnext) (fRet (fAndV (fOp (lift2 ltO) (fOp (lift2 ixO) (fVar 1) (fC (.int 0))) (fOp (lift2 ixO) (fVar 1) (fC (.int 1)))) (fAndV (fOp (lift2 inO) (fOp (lift2 ixO) (fVar 1) (fC (.int 0))) (fVar 0)) (fOp (lift2 inO) (fOp (lift2 ixO) (fVar 1) (fC (.int 1))) (fVar 0)))))
def F_is_tie : List R → Pw → FRes := runF 2 2 p_is_tie
def e_is_right_tree_v2_1 : M R := fUser F_is_tie (fCons (fVar 0) (fCons (fVar 2) fNil))
abbrev l_is_right_tree_v2_1 : M R := fLc (fLstI (fVar 1)) (bName 2) fYes (e_is_right_tree_v2_1) [2]
def p_is_right_tree_v2 : DSt → Flow := fseq (fIfS (fOr (fNot (fB (fIsi "list" (fVar 1)))) (fOr (fB (fOp (lift2 neO) (fCall lenO (pCons (fVar 1) fNil)) (fOp (lift2 subO) (fCall lenO (pCons (fVar 0) fNil)) (fC (.int 1))))) (fNot (fB (fCall allO (pCons (fLc (fLstI (fVar 1)) (bName 2) fYes (e_is_right_tree_v2_1) [2]) fNil)))))) (fRet (fC (.bool false))) fnext) (fRet (fAndV (fOp (lift2 eqO) (fVar 1) (fSortSetP (fVar 1))) (fUser F_hang_together (fCons (fVar 1) (fCons (fVar 0) fNil)))))
def F_is_right_tree_v2 : List R → Pw → FRes := runF 3 2 p_is_right_tree_v2
def p_law_whole : DSt → Flow := fRet (fAndV (fIsi "int" (fVar 0)) (fV (fNot (fB (fIsi "bool" (fVar 0))))))
def F_law_whole : List R → Pw → FRes := runF 1 1 p_law_whole
def b_law_is_tree_v2_1 : DSt → Flow := fseq (fIfS (fOr (fNot (fB (fIsi "tuple" (fVar 2)))) (fOr (fB (fOp (lift2 neO) (fCall lenO (pCons (fVar 2) fNil)) (fC (.int 2)))) (fOr (fNot (fB (fUser F_law_whole (fCons (fOp (lift2 ixO) (fVar 2) (fC (.int 0))) fNil)))) (fNot (fB (fUser F_law_whole (fCons (fOp (lift2 ixO) (fVar 2) (fC (.int 1))) fNil))))))) (fRet (fC (.bool false))) fnext) (fIfS (fOr (fB (fOp (lift2 geO) (fOp (lift2 ixO) (fVar 2) (fC (.int 0))) (fOp (lift2 ixO) (fVar 2) (fC (.int 1))))) (fOr (fB (fOp (lift2 notInO) (fOp (lift2 ixO) (fVar 2) (fC (.int 0))) (fVar 0))) (fB (fOp (lift2 notInO) (fOp (lift2 ixO) (fVar 2) (fC (.int 1))) (fVar 0))))) (fRet (fC (.bool false))) fnext)
abbrev o_law_is_tree_v2_1 : List PyData → DSt → Flow := loopF (bName 2) b_law_is_tree_v2_1
def p_law_is_tree_v2 : DSt → Flow := fseq (fIfS (fOr (fNot (fB (fIsi "list" (fVar 1)))) (fB (fOp (lift2 neO) (fCall lenO (pCons (fVar 1) fNil)) (fOp (lift2 subO) (fCall lenO (pCons (fVar 0) fNil)) (fC (.int 1)))))) (fRet (fC (.bool false))) fnext) (fseq (fFor (fLstI (fVar 1)) (bName 2) b_law_is_tree_v2_1) (fRet (fAndV (fOp (lift2 eqO) (fVar 1) (fSortSetP (fVar 1))) (fUser F_law_together (fCons (fVar 1) (fCons (fVar 0) fNil))))))
def F_law_is_tree_v2 : List R → Pw → FRes := runF 3 2 p_law_is_tree_v2
/-! trees looked at, whatever they are -/
def tieB (N : List Int) : PyData → Bool
  | .tuple [.int a, .int b] => decide (a < b ∧ a ∈ N ∧ b ∈ N)
  | _ => false
def TreeP (N : List Int) (ps : List (Int × Int)) : Prop := ps.length + 1 = N.length ∧ (∀ p ∈ ps, p.1 < p.2 ∧ p.1 ∈ N ∧ p.2 ∈ N) ∧ ps.Pairwise ltP ∧ (clT ps N (N.headD 0)).length = N.length
instance (N : List Int) (ps : List (Int × Int)) : Decidable (TreeP N ps) := Classical.propDecidable _
def treeB (N : List Int) : PyData → Bool
  | .list ds => match pairsD ds with
    | some ps => decide (TreeP N ps)
    | none => false
  | _ => false
end DL

noncomputable section
namespace DL
open PySem L2
def e_law_copied_1 (rec : List R → Pw → FRes) : M R := fUser rec (fCons (fVar 1) fNil)
abbrev l_law_copied_1 (rec : List R → Pw → FRes) : M R := fLc (fLstI (fVar 0)) (bName 1) fYes ((e_law_copied_1 rec)) [1]
def e_law_copied_2 (rec : List R → Pw → FRes) : M R := fUser rec (fCons (fVar 1) fNil)
abbrev l_law_copied_2 (rec : List R → Pw → FRes) : M R := fLc (fLstI (fVar 0)) (bName 1) fYes ((e_law_copied_2 rec)) [1]
def p_law_copied (rec : List R → Pw → FRes) : DSt → Flow := fseq (fIfS (fB (fIsi "tuple" (fVar 0))) (fRet (fCall tupleO (pCons (fLc (fLstI (fVar 0)) (bName 1) fYes ((e_law_copied_1 rec)) [1]) fNil))) fnext) (fseq (fIfS (fB (fIsi "list" (fVar 0))) (fRet (fLc (fLstI (fVar 0)) (bName 1) fYes ((e_law_copied_2 rec)) [1])) fnext) (fRet (fVar 0)))
def F_law_copied : Nat → List R → Pw → FRes
  | 0 => runF 2 1 fnever
  | m + 1 => runF 2 1 (p_law_copied (F_law_copied m))
/-! copies -/
@[simp] theorem atI_litC {α : Type} {xs : List α} {k : Nat} : atI xs (no_index (OfNat.ofNat k)) = xs[k]? := by
  show atI xs ((k : Nat) : Int) = _
  exact atI_nat
def cpC : PyData → R
  | .list ds => .new ds
  | d => .val d
def tgC (p : Str × Bool) : PyData := .tuple [.str p.1, .bool p.2]
end DL

noncomputable section
namespace DL
open PySem L2
def e_number_of_v2_1 : M R := fOp (lift2 (sgO false)) (fVar 1) (fC (.str "0123456789"))
abbrev l_number_of_v2_1 : M R := fLc (fStrI (fVar 0)) (bName 1) fYes (e_number_of_v2_1) [1]
def p_number_of_v2 : DSt → Flow := fseq (fIfS (fOr (fB (fOp (lift2 eqO) (fVar 0) (fC (.str "")))) (fOr (fB (fOp (lift2 gtO) (fCall lenO (pCons (fVar 0) fNil)) (fC (.int 30)))) (fNot (fB (fCall allO (pCons (fLc (fStrI (fVar 0)) (bName 1) fYes (e_number_of_v2_1) [1]) fNil)))))) (fRet (fC .none)) fnext) (fseq (fIfS (fAnd (fB (fOp (lift2 eqO) (fOp (lift2 ixO) (fVar 0) (fC (.int 0))) (fC (.str "0")))) (fB (fOp (lift2 neO) (fVar 0) (fC (.str "0"))))) (fRet (fC .none)) fnext) (fRet (fCall intTO (pCons (fVar 0) fNil))))
def F_number_of_v2 : List R → Pw → FRes := runF 2 1 p_number_of_v2
def e_ranking_of_v3_1 : M R := fUser F_number_of_v2 (fCons (fVar 2) fNil)
abbrev l_ranking_of_v3_1 : M R := fLc (fLstI (fSplit (fVar 0) (fC (.str ">")))) (bName 2) fYes (e_ranking_of_v3_1) [2]
def p_ranking_of_v3 : DSt → Flow := fseq (fSet 1 (fLc (fLstI (fSplit (fVar 0) (fC (.str ">")))) (bName 2) fYes (e_ranking_of_v3_1) [2])) (fseq (fIfS (fOr (fB (fOp (lift2 inO) (fC .none) (fVar 1))) (fNot (fB (fUserP F_is_ranking (pCons (fVar 1) fNil))))) (fRet (fC .none)) fnext) (fRet (fVar 1)))
def F_ranking_of_v3 : List R → Pw → FRes := runF 3 1 p_ranking_of_v3
def e_in_one_1 : M R := fStr (fVar 1)
abbrev l_in_one_1 : M R := fLc (fLstI (fVar 0)) (bName 1) fYes (e_in_one_1) [1]
def p_in_one : DSt → Flow := fRet (fJoin (fC (.str ">")) (fLc (fLstI (fVar 0)) (bName 1) fYes (e_in_one_1) [1]))
def F_in_one : List R → Pw → FRes := runF 2 1 p_in_one
def p_ranking_text : DSt → Flow := fseq (fDrop (fUser F_must_be_ranking (fCons (fVar 0) fNil))) (fRet (fUser F_in_one (fCons (fVar 0) fNil)))
def F_ranking_text : List R → Pw → FRes := runF 1 1 p_ranking_text
def p_read_ranking_v8 : DSt → Flow := fseq (fSet 1 (fUser F_ranking_of_v3 (fCons (fVar 0) fNil))) (fseq (fIfS (fB (fIsN false (fVar 1))) fnever fnext) (fRet (fVar 1)))
def F_read_ranking_v8 : List R → Pw → FRes := runF 2 1 p_read_ranking_v8
def e_folk_text_1 : M R := fOp (lift2 addO) (fUser F_in_one (fCons (fVar 1) fNil)) (fC (.str "\n"))
abbrev l_folk_text_1 : M R := fLc (fLstI (fVar 0)) (bName 1) fYes (e_folk_text_1) [1]
def p_folk_text : DSt → Flow := fseq (fDrop (fUser F_must_be_folk (fCons (fVar 0) fNil))) (fRet (fJoin (fC (.str "")) (fLc (fLstI (fVar 0)) (bName 1) fYes (e_folk_text_1) [1])))
def F_folk_text : List R → Pw → FRes := runF 2 1 p_folk_text
def b_read_folk_v5_1 : DSt → Flow := fseq (fSet 5 (fUser F_ranking_of_v3 (fCons (fVar 4) fNil))) (fseq (fIfS (fOr (fB (fIsN false (fVar 5))) (fOr (fB (fOp (lift2 geO) (fVar 3) (fC (.int 20)))) (fAnd (fB (fOp (lift2 neO) (fVar 2) (fLst fNil))) (fB (fOp (lift2 neO) (fCall sortedO (pCons (fVar 5) fNil)) (fCall sortedO (pCons (fOp (lift2 ixO) (fVar 2) (fC (.int 0))) fNil))))))) fnever fnext) (fDrop (fApp 2 (fVar 5))))
abbrev o_read_folk_v5_1 : List PyData → DSt → Flow := loopF (bTup 2 (bCons (bName 3) (bCons (bName 4) bNil))) b_read_folk_v5_1
def p_read_folk_v5 : DSt → Flow := fseq (fSet 1 (fSplit (fVar 0) (fC (.str "\n")))) (fseq (fSet 2 (fLst fNil)) (fseq (fFor (fEnum (fCons (fSlice (fVar 1) fNoPart (fPart (fUn (lift1 negO) (fC (.int 1))))) fNil)) (bTup 2 (bCons (bName 3) (bCons (bName 4) bNil))) b_read_folk_v5_1) (fseq (fIfS (fOr (fB (fOp (lift2 neO) (fOp (lift2 ixO) (fVar 1) (fUn (lift1 negO) (fC (.int 1)))) (fC (.str "")))) (fB (fOp (lift2 eqO) (fVar 2) (fLst fNil)))) fnever fnext) (fRet (fVar 2)))))
def F_read_folk_v5 : List R → Pw → FRes := runF 6 1 p_read_folk_v5
def e_law_word_1 : M R := fStr (fVar 1)
abbrev l_law_word_1 : M R := fLc (fLstI (fVar 0)) (bName 1) fYes (e_law_word_1) [1]
def p_law_word : DSt → Flow := fRet (fJoin (fC (.str ">")) (fLc (fLstI (fVar 0)) (bName 1) fYes (e_law_word_1) [1]))
def F_law_word : List R → Pw → FRes := runF 2 1 p_law_word
/-! rankings and folk as texts -/
def wI (i : Int) : Str := Str.ofString (toString i)
theorem tl_wI (n : Nat) : TL.tl (wI (n : Int)) = TL.numL n := TL.tl_num n
theorem wI_len (x : Str) : x.length = (TL.tl x).length := TL.len_tl x
theorem figures : TL.tl (Str.ofString "0123456789") = [48, 49, 50, 51, 52, 53, 54, 55, 56, 57] := by decide
theorem fig_mem {c : Nat} (h1 : 48 ≤ c) (h2 : c ≤ 57) : c ∈ (Str.ofString "0123456789").cps.toList := by
  show c ∈ TL.tl (Str.ofString "0123456789")
  rw [figures]
  simp
  omega
/-! a ranking's word -/
def okW (r : List Int) : Prop := ∀ x ∈ r, 0 ≤ x ∧ x < 10 ^ 30
def oneT (r : List Int) : Str := Txt.join (Str.ofString ">") (r.map wI)
theorem wI_nat {x : Int} (h : 0 ≤ x) : ∃ n : Nat, x = (n : Int) := Int.eq_ofNat_of_zero_le h |>.imp fun _ h => h
theorem wI_le {x : Int} (h : 0 ≤ x ∧ x < 10 ^ 30) : (wI x).length ≤ 30 ∧ (∀ s, s < 48 ∨ 57 < s → s ∉ TL.tl (wI x)) := by
  obtain ⟨n, rfl⟩ := wI_nat h.1
  have hn : n < 10 ^ 30 := by
    have := h.2
    have e : ((10 : Int) ^ 30) = ((10 ^ 30 : Nat) : Int) := by norm_cast
    rw [e] at this
    exact Int.ofNat_lt.mp this
  rw [wI_len, tl_wI]
  exact ⟨TL.numL_len (by omega) hn, fun s hs => TL.numL_free hs⟩
theorem sum_le {l : List Nat} {k : Nat} (h : ∀ x ∈ l, x ≤ k) : l.sum ≤ l.length * k := by
  induction l with
  | nil => simp
  | cons a l ih =>
    have := h a (by simp)
    have := ih fun x hx => h x (by simp [hx])
    rw [List.sum_cons, List.length_cons, Nat.succ_mul]
    omega
theorem leJ_of {a : Str} {ys : List Str} {k n : Nat} (ha : a.length ≤ 1) (hl : ys.length ≤ n) (h : ∀ y ∈ ys, y.length ≤ k) (hk : n * (k + 1) ≤ 16777216) : leJ a ys := by
  unfold leJ
  have h1 := sum_le (l := ys.map (·.length)) (k := k) fun x hx => by obtain ⟨y, hy, rfl⟩ := List.mem_map.mp hx; exact h y hy
  rw [List.length_map] at h1
  have h2 : ys.length * a.length ≤ ys.length * 1 := Nat.mul_le_mul_left _ ha
  have h3 : ys.length * k + ys.length * 1 ≤ n * (k + 1) := by rw [← Nat.mul_add]; exact Nat.mul_le_mul_right _ hl
  omega
theorem lg_ok {x : Int} (h : 0 ≤ x ∧ x < 10 ^ 30) : lgT x := by
  have b : (10 : Int) ^ 30 < 2 ^ 200 := by decide +kernel
  have c : -((2 : Int) ^ 200) < 0 := by decide +kernel
  have := log_small (a := x) (Int.lt_of_lt_of_le c h.1) (Int.lt_trans h.2 b)
  unfold lgT
  omega
end DL

noncomputable section
namespace DL
open PySem L2

theorem tl_gt : TL.tl (Str.ofString ">") = [62] := by decide
theorem tl_nl : TL.tl (Str.ofString "\n") = [10] := by decide
theorem len_joinL (S : List Nat) {k : Nat} : ∀ {ps : List (List Nat)}, (∀ p ∈ ps, p.length ≤ k) → (TL.joinL S ps).length ≤ ps.length * (k + S.length)
  | [], _ => by simp [TL.joinL]
  | [p], h => by
    have := h p (by simp)
    simp only [TL.joinL, List.length_cons, List.length_nil]
    omega
  | p :: q :: ps, h => by
    have h1 := h p (by simp)
    have h2 := len_joinL S (ps := q :: ps) fun x hx => h x (by simp [List.mem_cons.mp hx])
    simp only [TL.joinL, List.length_append, List.length_cons, Nat.succ_mul] at h2 ⊢
    omega
theorem none_in {ns : List Int} : inO .none (.list (ns.map .int)) = some (.val (.bool false)) := by
  have d : PyData.depth .none ≤ 60 := by decide
  unfold inO
  show (if min (PyData.depthAll (ns.map PyData.int)) (PyData.depth .none) ≤ 60 then some (R.val (.bool ((ns.map PyData.int).any fun z => PyData.eqv z .none))) else none) = _
  rw [if_pos (by omega)]
  have : ((ns.map PyData.int).any fun z => PyData.eqv z .none) = false := by
    rw [List.any_eq_false]
    intro y hy
    obtain ⟨b, hb, rfl⟩ := List.mem_map.mp hy
    simp [PyData.eqv]
  rw [this]
end DL

noncomputable section
namespace DL
open PySem L2

def rowT (r : List Int) : Str := oneT r ++ Str.ofString "\n"
def folkT (f : List (List Int)) : Str := Txt.join (Str.ofString "") (f.map rowT)
end DL

noncomputable section
namespace DL
open PySem L2
def t_law_figured_v2_1 : M Bool := fB (fOp (lift2 (sgO true)) (fVar 1) (fC (.str "0123456789")))
def e_law_figured_v2_2 : M R := fVar 1
abbrev l_law_figured_v2_2 : M R := fLc (fStrI (fVar 0)) (bName 1) (t_law_figured_v2_1) (e_law_figured_v2_2) [1]
def p_law_figured_v2 : DSt → Flow := fseq (fIfS (fOr (fB (fOp (lift2 eqO) (fVar 0) (fC (.str "")))) (fOr (fB (fOp (lift2 gtO) (fCall lenO (pCons (fVar 0) fNil)) (fC (.int 30)))) (fB (fOp (lift2 neO) (fLc (fStrI (fVar 0)) (bName 1) (t_law_figured_v2_1) (e_law_figured_v2_2) [1]) (fLst fNil))))) (fRet (fC .none)) fnext) (fseq (fIfS (fAnd (fB (fOp (lift2 eqO) (fOp (lift2 ixO) (fVar 0) (fC (.int 0))) (fC (.str "0")))) (fB (fOp (lift2 neO) (fVar 0) (fC (.str "0"))))) (fRet (fC .none)) fnext) (fRet (fCall intTO (pCons (fVar 0) fNil))))
def F_law_figured_v2 : List R → Pw → FRes := runF 2 1 p_law_figured_v2
/-! texts of any kind: a number -/
def digB (x : Str) : Bool := (TL.tl x).all fun c => decide (48 ≤ c ∧ c ≤ 57)
theorem digB_iff {x : Str} : digB x = true ↔ NumText.AllDigits (TL.tl x) := by
  unfold digB NumText.AllDigits
  rw [List.all_eq_true]
  exact ⟨fun h c hc => of_decide_eq_true (h c hc), fun h c hc => decide_eq_true (h c hc)⟩
def numV (x : Str) : Option Int := if TL.tl x = [] ∨ 30 < (TL.tl x).length ∨ digB x = false then none else if (TL.tl x).head? = some 48 ∧ TL.tl x ≠ [48] then none else some ((NumText.digitsVal (TL.tl x) : Nat) : Int)
def optI : Option Int → PyData
  | none => .none
  | some n => .int n
theorem fig_iff {c : Nat} : c ∈ (Str.ofString "0123456789").cps.toList ↔ 48 ≤ c ∧ c ≤ 57 := by
  constructor
  · intro h
    have h : c ∈ TL.tl (Str.ofString "0123456789") := h
    rw [figures] at h
    simp at h
    omega
  · exact fun h => fig_mem h.1 h.2
theorem nil_iff {x : Str} : x = Str.ofString "" ↔ TL.tl x = [] := by
  constructor
  · rintro rfl; decide
  · intro h
    apply TL.ext_tl
    rw [h]; decide
theorem zero_iff {x : Str} : x = Str.ofString "0" ↔ TL.tl x = [48] := by
  constructor
  · rintro rfl; decide
  · intro h
    apply TL.ext_tl
    rw [h]; decide
theorem word_looks {x : Str} (h30 : (TL.tl x).length ≤ 30) (hd : digB x = true) (h0 : TL.tl x ≠ []) : ∃ c, ixO (.str x) (.int 0) = some (.val (.str ⟨#[c]⟩)) ∧ ((⟨#[c]⟩ : Str) = Str.ofString "0" ↔ (TL.tl x).head? = some 48) ∧ intTO [.str x] = some (.val (.int ((NumText.digitsVal (TL.tl x) : Nat) : Int))) := by
  obtain ⟨c, r, hc⟩ := List.exists_cons_of_ne_nil h0
  have lx : x.length ≤ 30 := by rw [wI_len]; exact h30
  refine ⟨c, ?_, ?_, ?_⟩
  · show (if leS (x.length) then (atI x.cps.toList 0).map fun c => R.val (.str ⟨#[c]⟩) else none) = _
    rw [if_pos (size_le (by omega)), show x.cps.toList = c :: r from hc]
    simp
  · rw [hc, List.head?_cons]
    constructor
    · intro z
      have := congrArg TL.tl z
      rw [show TL.tl (Str.ofString "0") = [48] by decide] at this
      rw [(List.cons.inj this).1]
    · intro z
      cases z
      decide
  · have e := intText_digits (x := x) (digB_iff.mp hd) h0 (by omega)
    show (match PySem.intText? x with | some n => if x.length ≤ 640 then some (R.val (.int n)) else none | none => none) = _
    rw [e]
    exact if_pos (by omega)
theorem fig_iff' {c : Nat} : c ∈ (Str.ofString "0123456789").cps ↔ 48 ≤ c ∧ c ≤ 57 := by
  rw [← Array.mem_toList_iff]
  exact fig_iff
theorem word_kind (x : Str) : (TL.tl x = [] ∧ numV x = none) ∨ (TL.tl x ≠ [] ∧ 30 < (TL.tl x).length ∧ numV x = none) ∨ (TL.tl x ≠ [] ∧ (TL.tl x).length ≤ 30 ∧ digB x = false ∧ numV x = none) ∨
    (TL.tl x ≠ [] ∧ (TL.tl x).length ≤ 30 ∧ digB x = true ∧ (TL.tl x).head? = some 48 ∧ TL.tl x ≠ [48] ∧ numV x = none) ∨ (TL.tl x ≠ [] ∧ (TL.tl x).length ≤ 30 ∧ digB x = true ∧ ((TL.tl x).head? = some 48 → TL.tl x = [48]) ∧ numV x = some ((NumText.digitsVal (TL.tl x) : Nat) : Int)) := by
  unfold numV
  by_cases e0 : TL.tl x = []
  · exact .inl ⟨e0, if_pos (.inl e0)⟩
  · by_cases h : 30 < (TL.tl x).length
    · exact .inr (.inl ⟨e0, h, if_pos (.inr (.inl h))⟩)
    · cases d : digB x with
      | false => exact .inr (.inr (.inl ⟨e0, by omega, rfl, if_pos (.inr (.inr rfl))⟩))
      | true =>
        have n : ¬ (TL.tl x = [] ∨ 30 < (TL.tl x).length ∨ true = false) := by simp only [e0, h, Bool.true_eq_false, or_self, not_false_eq_true]
        rw [if_neg n]
        by_cases q : (TL.tl x).head? = some 48 ∧ TL.tl x ≠ [48]
        · exact .inr (.inr (.inr (.inl ⟨e0, by omega, rfl, q.1, q.2, if_pos q⟩)))
        · exact .inr (.inr (.inr (.inr ⟨e0, by omega, rfl, fun z => Classical.byContradiction fun k => q ⟨z, k⟩, if_neg q⟩)))
theorem numb_any {x : Str} {w : Pw} (hx : leS x.length) : F_number_of_v2 [.val (.str x)] w = .ok (.val (optI (numV x))) w := by
  have lo : lenO [.str x] = some (.val (.int (x.length : Int))) := if_pos hx
  have lx := wI_len x
  have e1 : (TL.tl x).length ≤ 30 → l_number_of_v2_1 ⟨[.val (.str x), .no], w⟩ = .ok (.new ((TL.tl x).map fun c => PyData.bool (decide (48 ≤ c ∧ c ≤ 57)))) ⟨[.val (.str x), .no], w⟩ := fun h => by
    refine lc_all (fun c : Nat => ⟨[.val (.str x), .val (.str ⟨#[c]⟩)], w⟩) _ (f := fun c : Nat => PyData.str ⟨#[c]⟩) (l := TL.tl x) (by
      have : sgnD x = (TL.tl x).map fun c : Nat => PyData.str ⟨#[c]⟩ := rfl
      simp -implicitDefEqProofs [this]) (by omega) rfl (fun a _ => by rfl) (fun a _ => by rfl) (fun c hc => ?_)
    unfold e_number_of_v2_1
    simp -implicitDefEqProofs [fig_iff', -Bool.decide_and]
  have ea : allO [.list ((TL.tl x).map fun c => PyData.bool (decide (48 ≤ c ∧ c ≤ 57)))] = some (.val (.bool (digB x))) := by
    rw [x_allO, boolsD_map']
    show some (R.val (.bool _)) = _
    congr 3
    rw [List.all_map]
    rfl
  obtain ⟨DB, hDB⟩ : ∃ DB, ((TL.tl x).map fun c => PyData.bool (decide (48 ≤ c ∧ c ≤ 57))) = DB := ⟨_, rfl⟩
  rw [hDB] at e1 ea
  rcases word_kind x with ⟨e0, hv⟩ | ⟨e0, h30, hv⟩ | ⟨e0, h30, hd, hv⟩ | ⟨e0, h30, hd, q, z, hv⟩ | ⟨e0, h30, hd, q, hv⟩ <;> rw [hv] <;> unfold F_number_of_v2 p_number_of_v2 <;> simp only [x_runF]
  · have : x = Str.ofString "" := nil_iff.mpr e0
    have ee : eqO (.str x) (.str (Str.ofString "")) = some (.val (.bool true)) := by rw [this]; rfl
    simp -implicitDefEqProofs [ee, optI]
  · have n0 : ¬ x = Str.ofString "" := fun z => e0 (nil_iff.mp z)
    have h30' : (30 : Int) < (x.length : Int) := by omega
    simp -implicitDefEqProofs [n0, lo, h30', optI]
  · have n0 : ¬ x = Str.ofString "" := fun z => e0 (nil_iff.mp z)
    have h30' : ¬ (30 : Int) < (x.length : Int) := by omega
    rw [hd] at ea
    simp -implicitDefEqProofs [n0, lo, h30', e1 h30, ea, optI, -x_allO]
  · have n0 : ¬ x = Str.ofString "" := fun z => e0 (nil_iff.mp z)
    have h30' : ¬ (30 : Int) < (x.length : Int) := by omega
    rw [hd] at ea
    obtain ⟨c, c1, c2, c3⟩ := word_looks h30 hd e0
    have q2 := c2.mpr q
    have nz : ¬ x = Str.ofString "0" := fun k => z (zero_iff.mp k)
    simp -implicitDefEqProofs [n0, lo, h30', e1 h30, ea, optI, -x_allO, c1, q2, nz, c3]
  · have n0 : ¬ x = Str.ofString "" := fun z => e0 (nil_iff.mp z)
    have h30' : ¬ (30 : Int) < (x.length : Int) := by omega
    rw [hd] at ea
    obtain ⟨c, c1, c2, c3⟩ := word_looks h30 hd e0
    by_cases z : (TL.tl x).head? = some 48
    · have q2 := c2.mpr z
      have nz : neO (.str x) (.str (Str.ofString "0")) = some (.val (.bool false)) := by rw [zero_iff.mpr (q z)]; rfl
      simp -implicitDefEqProofs [n0, lo, h30', e1 h30, ea, optI, -x_allO, c1, q2, nz, c3]
    · have q2 : ¬ (⟨#[c]⟩ : Str) = Str.ofString "0" := fun k => z (c2.mp k)
      simp -implicitDefEqProofs [n0, lo, h30', e1 h30, ea, optI, -x_allO, c1, q2, c3]
theorem figured_any {x : Str} {w : Pw} (hx : leS x.length) : F_law_figured_v2 [.val (.str x)] w = .ok (.val (optI (numV x))) w := by
  have lo : lenO [.str x] = some (.val (.int (x.length : Int))) := if_pos hx
  have lx := wI_len x
  have e1 : (TL.tl x).length ≤ 30 → l_law_figured_v2_2 ⟨[.val (.str x), .no], w⟩ = .ok (.new (((TL.tl x).filter fun c => !decide (48 ≤ c ∧ c ≤ 57)).map fun c => PyData.str ⟨#[c]⟩)) ⟨[.val (.str x), .no], w⟩ := fun h => by
    refine lc_gen (fun c : Nat => ⟨[.val (.str x), .val (.str ⟨#[c]⟩)], w⟩) _ _ (f := fun c : Nat => PyData.str ⟨#[c]⟩) (l := TL.tl x) (by
      have : sgnD x = (TL.tl x).map fun c : Nat => PyData.str ⟨#[c]⟩ := rfl
      simp -implicitDefEqProofs [this]) (by omega) rfl (fun a _ => by rfl) (fun a _ => by rfl) (fun c hc => ?_) (fun c hc _ => ?_)
    · unfold t_law_figured_v2_1
      simp -implicitDefEqProofs [fig_iff', -Bool.decide_and]
    · unfold e_law_figured_v2_2
      simp -implicitDefEqProofs
  have ea : neO (.list (((TL.tl x).filter fun c => !decide (48 ≤ c ∧ c ≤ 57)).map fun c => PyData.str ⟨#[c]⟩)) (.list []) = some (.val (.bool (!digB x))) := by
    cases hd : digB x with
    | true =>
      have : (TL.tl x).filter (fun c => !decide (48 ≤ c ∧ c ≤ 57)) = [] := List.filter_eq_nil_iff.mpr fun c hc => by
        have := digB_iff.mp hd c hc
        simp
        omega
      rw [this]
      rfl
    | false =>
      cases hf : (TL.tl x).filter (fun c => !decide (48 ≤ c ∧ c ≤ 57)) with
      | nil =>
        exfalso
        have : digB x = true := digB_iff.mpr fun c hc => by
          have := List.filter_eq_nil_iff.mp hf c hc
          simp at this
          omega
        rw [this] at hd; cases hd
      | cons a l => simp
  obtain ⟨DB, hDB⟩ : ∃ DB, (((TL.tl x).filter fun c => !decide (48 ≤ c ∧ c ≤ 57)).map fun c => PyData.str ⟨#[c]⟩) = DB := ⟨_, rfl⟩
  rw [hDB] at e1 ea
  rcases word_kind x with ⟨e0, hv⟩ | ⟨e0, h30, hv⟩ | ⟨e0, h30, hd, hv⟩ | ⟨e0, h30, hd, q, z, hv⟩ | ⟨e0, h30, hd, q, hv⟩ <;> rw [hv] <;> unfold F_law_figured_v2 p_law_figured_v2 <;> simp only [x_runF]
  · have : x = Str.ofString "" := nil_iff.mpr e0
    have ee : eqO (.str x) (.str (Str.ofString "")) = some (.val (.bool true)) := by rw [this]; rfl
    simp -implicitDefEqProofs [ee, optI]
  · have n0 : ¬ x = Str.ofString "" := fun z => e0 (nil_iff.mp z)
    have h30' : (30 : Int) < (x.length : Int) := by omega
    simp -implicitDefEqProofs [n0, lo, h30', optI]
  · have n0 : ¬ x = Str.ofString "" := fun z => e0 (nil_iff.mp z)
    have h30' : ¬ (30 : Int) < (x.length : Int) := by omega
    rw [hd] at ea
    simp -implicitDefEqProofs [n0, lo, h30', e1 h30, ea, optI]
  · have n0 : ¬ x = Str.ofString "" := fun z => e0 (nil_iff.mp z)
    have h30' : ¬ (30 : Int) < (x.length : Int) := by omega
    rw [hd] at ea
    obtain ⟨c, c1, c2, c3⟩ := word_looks h30 hd e0
    have q2 := c2.mpr q
    have nz : ¬ x = Str.ofString "0" := fun k => z (zero_iff.mp k)
    simp -implicitDefEqProofs [n0, lo, h30', e1 h30, ea, optI, c1, q2, nz, c3]
  · have n0 : ¬ x = Str.ofString "" := fun z => e0 (nil_iff.mp z)
    have h30' : ¬ (30 : Int) < (x.length : Int) := by omega
    rw [hd] at ea
    obtain ⟨c, c1, c2, c3⟩ := word_looks h30 hd e0
    by_cases z : (TL.tl x).head? = some 48
    · have q2 := c2.mpr z
      have nz : neO (.str x) (.str (Str.ofString "0")) = some (.val (.bool false)) := by rw [zero_iff.mpr (q z)]; rfl
      simp -implicitDefEqProofs [n0, lo, h30', e1 h30, ea, optI, c1, q2, nz, c3]
    · have q2 : ¬ (⟨#[c]⟩ : Str) = Str.ofString "0" := fun k => z (c2.mp k)
      simp -implicitDefEqProofs [n0, lo, h30', e1 h30, ea, optI, c1, q2, c3]

end DL

noncomputable section
namespace DL
open PySem L2
def e_law_ranked_v2_1 : M R := fUser F_law_figured_v2 (fCons (fVar 2) fNil)
abbrev l_law_ranked_v2_1 : M R := fLc (fLstI (fSplit (fVar 0) (fC (.str ">")))) (bName 2) fYes (e_law_ranked_v2_1) [2]
def p_law_ranked_v2 : DSt → Flow := fseq (fSet 1 (fLc (fLstI (fSplit (fVar 0) (fC (.str ">")))) (bName 2) fYes (e_law_ranked_v2_1) [2])) (fseq (fIfS (fOr (fB (fOp (lift2 inO) (fC .none) (fVar 1))) (fOr (fB (fOp (lift2 gtO) (fCall lenO (pCons (fVar 1) fNil)) (fC (.int 10)))) (fB (fOp (lift2 ltO) (fLenSet (fVar 1)) (fCall lenO (pCons (fVar 1) fNil)))))) (fRet (fC .none)) fnext) (fRet (fVar 1)))
def F_law_ranked_v2 : List R → Pw → FRes := runF 3 1 p_law_ranked_v2
/-! texts of any kind: a ranking -/
def allS : List (Option Int) → Option (List Int)
  | [] => some []
  | none :: _ => none
  | some a :: l => (allS l).map (a :: ·)
theorem allS_some : ∀ {vs : List (Option Int)} {ns : List Int}, allS vs = some ns → vs = ns.map some
  | [], _, h => by cases h; rfl
  | none :: _, _, h => by cases h
  | some a :: l, ns, h => by
    unfold allS at h
    cases q : allS l with
    | none => rw [q] at h; cases h
    | some ms => rw [q] at h; cases h; rw [allS_some q]; rfl
theorem allS_none : ∀ {vs : List (Option Int)}, allS vs = none → none ∈ vs
  | [], h => by cases h
  | none :: _, _ => by simp
  | some a :: l, h => by
    unfold allS at h
    cases q : allS l with
    | none => exact List.mem_cons_of_mem _ (allS_none q)
    | some ms => rw [q] at h; cases h
open Classical in
def rankV (x : Str) : Option (List Int) := match allS ((Txt.split x (Str.ofString ">")).map numV) with
  | some ns => if Rank ns then some ns else none
  | none => none
def rkR : Option (List Int) → R
  | none => .val .none
  | some ns => .new (ns.map .int)
theorem none_inO {vs : List (Option Int)} (h : none ∈ vs) : inO .none (.list (vs.map optI)) = some (.val (.bool true)) := by
  have d : PyData.depth .none ≤ 60 := by decide
  unfold inO
  show (if min (PyData.depthAll (vs.map optI)) (PyData.depth .none) ≤ 60 then some (R.val (.bool ((vs.map optI).any fun z => PyData.eqv z .none))) else none) = _
  rw [if_pos (by omega)]
  have : ((vs.map optI).any fun z => PyData.eqv z .none) = true := by
    rw [List.any_eq_true]
    exact ⟨.none, List.mem_map.mpr ⟨none, h, rfl⟩, by simp [PyData.eqv]⟩
  rw [this]
structure WordOk (x : Str) : Prop where
  l : leS (x.length + 2)
  p : (Txt.split x (Str.ofString ">")).length ≤ 1000
end DL

noncomputable section
namespace DL
open PySem L2
def b_read_folk_v6_1 : DSt → Flow := fseq (fSet 5 (fUser F_ranking_of_v3 (fCons (fVar 4) fNil))) (fseq (fIfS (fOr (fB (fIsN false (fVar 5))) (fOr (fB (fOp (lift2 geO) (fVar 3) (fC (.int 20)))) (fAnd (fB (fOp (lift2 neO) (fVar 2) (fLst fNil))) (fB (fOp (lift2 neO) (fCall sortedO (pCons (fVar 5) fNil)) (fCall sortedO (pCons (fOp (lift2 ixO) (fVar 2) (fC (.int 0))) fNil))))))) (fRaiseA "NoText" (fVar 3)) fnext) (fDrop (fApp 2 (fVar 5))))
abbrev o_read_folk_v6_1 : List PyData → DSt → Flow := loopF (bTup 2 (bCons (bName 3) (bCons (bName 4) bNil))) b_read_folk_v6_1
def p_read_folk_v6 : DSt → Flow := fseq (fSet 1 (fSplit (fVar 0) (fC (.str "\n")))) (fseq (fSet 2 (fLst fNil)) (fseq (fFor (fEnum (fCons (fSlice (fVar 1) fNoPart (fPart (fUn (lift1 negO) (fC (.int 1))))) fNil)) (bTup 2 (bCons (bName 3) (bCons (bName 4) bNil))) b_read_folk_v6_1) (fseq (fIfS (fOr (fB (fOp (lift2 neO) (fOp (lift2 ixO) (fVar 1) (fUn (lift1 negO) (fC (.int 1)))) (fC (.str "")))) (fB (fOp (lift2 eqO) (fVar 2) (fLst fNil)))) (fRaiseA "NoText" (fOp (lift2 subO) (fCall lenO (pCons (fVar 1) fNil)) (fC (.int 1)))) fnext) (fRet (fVar 2)))))
def F_read_folk_v6 : List R → Pw → FRes := runF 6 1 p_read_folk_v6
def b_law_folk_of_v2_1 : DSt → Flow := fseq (fSet 5 (fUser F_law_ranked_v2 (fCons (fVar 4) fNil))) (fseq (fIfS (fOr (fB (fIsN false (fVar 5))) (fOr (fB (fOp (lift2 gtO) (fVar 3) (fC (.int 19)))) (fAnd (fB (fOp (lift2 neO) (fVar 1) (fLst fNil))) (fB (fOp (lift2 neO) (fCall sortedO (pCons (fVar 5) fNil)) (fCall sortedO (pCons (fOp (lift2 ixO) (fVar 1) (fC (.int 0))) fNil))))))) (fRet (fLst (fCons (fVar 3) fNil))) fnext) (fDrop (fApp 1 (fVar 5))))
abbrev o_law_folk_of_v2_1 : List PyData → DSt → Flow := loopF (bTup 2 (bCons (bName 3) (bCons (bName 4) bNil))) b_law_folk_of_v2_1
def p_law_folk_of_v2 : DSt → Flow := fseq (fSet 1 (fLst fNil)) (fseq (fSet 2 (fSplit (fVar 0) (fC (.str "\n")))) (fseq (fFor (fEnum (fCons (fSlice (fVar 2) fNoPart (fPart (fUn (lift1 negO) (fC (.int 1))))) fNil)) (bTup 2 (bCons (bName 3) (bCons (bName 4) bNil))) b_law_folk_of_v2_1) (fseq (fIfS (fOr (fB (fOp (lift2 neO) (fOp (lift2 ixO) (fVar 2) (fUn (lift1 negO) (fC (.int 1)))) (fC (.str "")))) (fB (fOp (lift2 eqO) (fVar 1) (fLst fNil)))) (fRet (fLst (fCons (fOp (lift2 subO) (fCall lenO (pCons (fVar 2) fNil)) (fC (.int 1))) fNil))) fnext) (fRet (fTup (fCons (fVar 1) fNil))))))
def F_law_folk_of_v2 : List R → Pw → FRes := runF 6 1 p_law_folk_of_v2
def p_read_ranking_v9 : DSt → Flow := fseq (fSet 1 (fUser F_ranking_of_v3 (fCons (fVar 0) fNil))) (fseq (fIfS (fB (fIsN false (fVar 1))) (fRaiseA "NoText" (fC (.int 0))) fnext) (fRet (fVar 1)))
def F_read_ranking_v9 : List R → Pw → FRes := runF 2 1 p_read_ranking_v9
/-! texts of any kind: a folk -/
open Classical in
def foldK : List Str → Nat → List (List Int) → Sum (List (List Int)) Nat
  | [], _, f => .inl f
  | x :: rows, k, f => match rankV x with
    | none => .inr k
    | some r => if 20 ≤ k ∨ (f ≠ [] ∧ sortI r ≠ sortI (f.headD [])) then .inr k else foldK rows (k + 1) (f ++ [r])
open Classical in
def folkV (x : Str) : Sum (List (List Int)) Nat := match foldK (Txt.split x (Str.ofString "\n")).dropLast 0 [] with
  | .inr k => .inr k
  | .inl f => if (Txt.split x (Str.ofString "\n")).getLastD (Str.ofString "") ≠ Str.ofString "" ∨ f = [] then .inr ((Txt.split x (Str.ofString "\n")).length - 1) else .inl f
def enF (p : Str × Nat) : PyData := .tuple [.int (p.2 : Int), .str p.1]
theorem loop_cons {b : Bd} {p : DSt → Flow} {d : PyData} {ds : List PyData} {s s1 : DSt} (h : b d s = some s1) : loopF b p (d :: ds) s = match p s1 with
      | .next s2 => loopF b p ds s2
      | .cnt s2 => loopF b p ds s2
      | .brk s2 => .next s2
      | .ret r s2 => .ret r s2
      | .err x s2 => .err x s2
      | .stuck => .stuck := by
  show (match b d s with | none => Flow.stuck | some s1 => _) = _
  rw [h]
  try rfl
end DL

noncomputable section
namespace DL
open PySem L2

/-! texts of any kind: a folk, read -/
structure TextOk (x : Str) : Prop where
  l : leS (x.length + 2)
  p : (Txt.split x (Str.ofString "\n")).length ≤ 1000
  r : ∀ y ∈ Txt.split x (Str.ofString "\n"), WordOk y
theorem enum_str {l : List Str} : enumD (l.map .str) = (l.zipIdx 0).map enF := by
  unfold enumD
  rw [List.zipIdx_map, List.map_map]
  rfl
theorem atI_m1z {α : Type} {xs : List α} {z : α} : atI (xs ++ [z]) (-1) = some z := by
  unfold atI
  have e : ixN (xs ++ [z]).length (-1) = some xs.length := by
    unfold ixN
    simp
    try omega
  rw [e]
  simp
end DL

noncomputable section
namespace DL
open PySem L2
def t_law_marks_v11_1 : M Bool := fB (fVar 5)
def e_law_marks_v11_2 : M R := fVar 4
abbrev l_law_marks_v11_2 : M R := fLc (fZip (fCons (fVar 2) (fCons (fVar 1) fNil))) (bTup 2 (bCons (bName 4) (bCons (bName 5) bNil))) (t_law_marks_v11_1) (e_law_marks_v11_2) [4, 5]
def p_law_marks_v11 : DSt → Flow := fseq (fSet 1 (fLst (fCons (fIsYA ["NoText"] "NoRanking" (fVar 0)) (fCons (fIsYA ["NoText"] "NoFolk" (fVar 0)) (fCons (fIsYA ["NoText"] "NoNames" (fVar 0)) fNil))))) (fseq (fSet 1 (fOp (lift2 addO) (fVar 1) (fLst (fCons (fIsYA ["NoText"] "NoFit" (fVar 0)) (fCons (fIsYA ["NoText"] "NoLine" (fVar 0)) (fCons (fIsYA ["NoText"] "NoNumber" (fVar 0)) fNil)))))) (fseq (fSet 1 (fOp (lift2 addO) (fVar 1) (fLst (fCons (fIsYA ["NoText"] "NoTree" (fVar 0)) (fCons (fIsYA ["NoText"] "NoPaper" (fVar 0)) (fCons (fIsXA ["NoText"] "NoText" (fVar 0)) fNil)))))) (fseq (fSet 1 (fOp (lift2 addO) (fVar 1) (fLst (fCons (fIsYA ["NoText"] "NoTitle" (fVar 0)) (fCons (fIsYA ["NoText"] "NoRow" (fVar 0)) (fCons (fIsYA ["NoText"] "NoBack" (fVar 0)) fNil)))))) (fseq (fSet 1 (fOp (lift2 addO) (fVar 1) (fLst (fCons (fIsYA ["NoText"] "TooGreat" (fVar 0)) (fCons (fIsYA ["NoText"] "NoWeights" (fVar 0)) (fCons (fIsYA ["NoText"] "NoFall" (fVar 0)) fNil)))))) (fseq (fSet 1 (fOp (lift2 addO) (fVar 1) (fLst (fCons (fIsYA ["NoText"] "NoTops" (fVar 0)) (fCons (fIsYA ["NoText"] "NoFixed" (fVar 0)) (fCons (fIsYA ["NoText"] "NoHand" (fVar 0)) fNil)))))) (fseq (fSet 1 (fOp (lift2 addO) (fVar 1) (fLst (fCons (fIsYA ["NoText"] "NoRule" (fVar 0)) fNil)))) (fseq (fSet 2 (fSplit (fC (.str "NoRanking NoFolk NoNames NoFit NoLine NoNumber NoTree NoPaper")) (fC (.str " ")))) (fseq (fSet 2 (fOp (lift2 addO) (fVar 2) (fSplit (fC (.str "NoText NoTitle NoRow NoBack TooGreat NoWeights NoFall NoTops")) (fC (.str " "))))) (fseq (fSet 2 (fOp (lift2 addO) (fVar 2) (fSplit (fC (.str "NoFixed NoHand NoRule")) (fC (.str " "))))) (fseq (fSet 3 (fLc (fZip (fCons (fVar 2) (fCons (fVar 1) fNil))) (bTup 2 (bCons (bName 4) (bCons (bName 5) bNil))) (t_law_marks_v11_1) (e_law_marks_v11_2) [4, 5])) (fseq (fIfS (fNot (fB (fIsVA ["NoText"] (fVar 0)))) (fDrop (fApp 3 (fC (.str "none")))) fnext) (fRet (fVar 3)))))))))))))
def F_law_marks_v11 : List R → Pw → FRes := runF 6 1 p_law_marks_v11
def b_law_told_v35_1 : DSt → Flow := fseq (fIfS (fB (fOp (lift2 eqO) (fVar 0) (fC (.int 0)))) (fSet 3 (fUser F_read_folk_v6 (fCons (fVar 1) fNil))) fnext) (fIfS (fB (fOp (lift2 eqO) (fVar 0) (fC (.int 1)))) (fSet 3 (fUser F_read_ranking_v9 (fCons (fVar 1) fNil))) fnext)
def p_law_told_v35 : DSt → Flow := fseq (fSet 2 (fC .none)) (fseq (fSet 3 (fC .none)) (fseq (fTryA ["NoText"] 4 2 b_law_told_v35_1) (fseq (fIfS (fB (fIsN false (fVar 2))) (fRet (fTup (fCons (fVar 3) fNil))) fnext) (fseq (fIfS (fOr (fB (fOp (lift2 neO) (fUser F_law_marks_v11 (fCons (fVar 2) fNil)) (fLst (fCons (fC (.str "NoText")) fNil)))) (fB (fIsi "bool" (fFld "NoText" (fVar 2))))) (fRet (fC .none)) fnext) (fRet (fLst (fCons (fFld "NoText" (fVar 2)) fNil)))))))
def F_law_told_v35 : List R → Pw → FRes := runF 5 2 p_law_told_v35
def b_law_refusals_held_v5_1 : DSt → Flow := fDrop (fUser F_read_folk_v6 (fCons (fVar 2) fNil))
def b_law_refusals_held_v5_2 : DSt → Flow := fSet 3 (fC .none)
def b_law_refusals_held_v5_3 : DSt → Flow := fTryA ["NoText"] 4 3 b_law_refusals_held_v5_1
def p_law_refusals_held_v5 : DSt → Flow := fseq (fSet 0 (fLst fNil)) (fseq (fSet 1 (fLst (fCons (fC (.str "")) (fCons (fC (.str "1>2\n2>1\n1>1\n")) (fCons (fC (.str "3>1\n1>3")) (fCons (fC (.str "0\n0\n1\n")) fNil)))))) (fseq (fForH 0 3 "NoText" (fLstI (fVar 1)) (bName 2) b_law_refusals_held_v5_2 b_law_refusals_held_v5_3) (fRet (fOp (lift2 eqO) (fFlds "NoText" 3 (fVar 0)) (fLst (fCons (fC (.int 0)) (fCons (fC (.int 2)) (fCons (fC (.int 1)) (fCons (fC (.int 2)) fNil)))))))))
def F_law_refusals_held_v5 : List R → Pw → FRes := runF 5 0 p_law_refusals_held_v5
/-! what the law is told -/
theorem marks_text {n : Int} {w : Pw} : F_law_marks_v11 [.ob (.exc ⟨"NoText", some (.int n)⟩)] w = .ok (.new [.str "NoText"]) w := by
  have sp0 : Txt.split (Str.ofString "NoRanking NoFolk NoNames NoFit NoLine NoNumber NoTree NoPaper") (Str.ofString " ") = (["NoRanking", "NoFolk", "NoNames", "NoFit", "NoLine", "NoNumber", "NoTree", "NoPaper"] : List Str) := by decide +kernel
  have cc0 : ((Str.ofString " ").length == 0) = false ∧ leS ((Str.ofString "NoRanking NoFolk NoNames NoFit NoLine NoNumber NoTree NoPaper").length + 2) := ⟨by decide +kernel, size_le (by decide +kernel)⟩
  have sp1 : Txt.split (Str.ofString "NoText NoTitle NoRow NoBack TooGreat NoWeights NoFall NoTops") (Str.ofString " ") = (["NoText", "NoTitle", "NoRow", "NoBack", "TooGreat", "NoWeights", "NoFall", "NoTops"] : List Str) := by decide +kernel
  have cc1 : ((Str.ofString " ").length == 0) = false ∧ leS ((Str.ofString "NoText NoTitle NoRow NoBack TooGreat NoWeights NoFall NoTops").length + 2) := ⟨by decide +kernel, size_le (by decide +kernel)⟩
  have sp2 : Txt.split (Str.ofString "NoFixed NoHand NoRule") (Str.ofString " ") = (["NoFixed", "NoHand", "NoRule"] : List Str) := by decide +kernel
  have cc2 : ((Str.ofString " ").length == 0) = false ∧ leS ((Str.ofString "NoFixed NoHand NoRule").length + 2) := ⟨by decide +kernel, size_le (by decide +kernel)⟩
  obtain ⟨Ws, hWs⟩ : ∃ Ws : List PyData, [PyData.str "NoRanking", PyData.str "NoFolk", PyData.str "NoNames", PyData.str "NoFit", PyData.str "NoLine", PyData.str "NoNumber", PyData.str "NoTree", PyData.str "NoPaper", PyData.str "NoText", PyData.str "NoTitle", PyData.str "NoRow", PyData.str "NoBack", PyData.str "TooGreat", PyData.str "NoWeights", PyData.str "NoFall", PyData.str "NoTops", PyData.str "NoFixed", PyData.str "NoHand", PyData.str "NoRule"] = Ws := ⟨_, rfl⟩
  obtain ⟨Hs, hHs⟩ : ∃ Hs : List PyData, [PyData.bool false, PyData.bool false, PyData.bool false, PyData.bool false, PyData.bool false, PyData.bool false, PyData.bool false, PyData.bool false, PyData.bool true, PyData.bool false, PyData.bool false, PyData.bool false, PyData.bool false, PyData.bool false, PyData.bool false, PyData.bool false, PyData.bool false, PyData.bool false, PyData.bool false] = Hs := ⟨_, rfl⟩
  obtain ⟨L, hL, lL, fL⟩ : ∃ L : List (Str × Bool), zipD Ws Hs = L.map tgC ∧ L.length = 19 ∧ (L.filter (·.2)).map (fun p => PyData.str p.1) = [.str "NoText"] := by
    refine ⟨[("NoRanking", false), ("NoFolk", false), ("NoNames", false), ("NoFit", false), ("NoLine", false), ("NoNumber", false), ("NoTree", false), ("NoPaper", false), ("NoText", true), ("NoTitle", false), ("NoRow", false), ("NoBack", false), ("TooGreat", false), ("NoWeights", false), ("NoFall", false), ("NoTops", false), ("NoFixed", false), ("NoHand", false), ("NoRule", false)], ?_, rfl, rfl⟩
    rw [← hWs, ← hHs]; rfl
  have e : l_law_marks_v11_2 ⟨[.ob (.exc ⟨"NoText", some (.int n)⟩), .own Hs, .own Ws, .no, .no, .no], w⟩ = .ok (.new ((L.filter (·.2)).map fun p => .str p.1)) ⟨[.ob (.exc ⟨"NoText", some (.int n)⟩), .val (.list Hs), .val (.list Ws), .no, .no, .no], w⟩ := by
    refine lc_gen (fun p : Str × Bool => ⟨[.ob (.exc ⟨"NoText", some (.int n)⟩), .val (.list Hs), .val (.list Ws), .no, .val (.str p.1), .val (.bool p.2)], w⟩) _ _ (f := tgC) (l := L) (by simp -implicitDefEqProofs [hL]) (by omega) rfl (fun a _ => by rfl) (fun a _ => by rfl) (fun p hp => ?_) (fun p hp _ => ?_)
    · unfold t_law_marks_v11_1
      simp -implicitDefEqProofs
    · unfold e_law_marks_v11_2
      simp -implicitDefEqProofs
  rw [fL] at e
  have s1 : leS 1 := size_le (by omega)
  have s3 : leS 3 := size_le (by omega)
  have s6 : leS 6 := size_le (by omega)
  have s9 : leS 9 := size_le (by omega)
  have s12 : leS 12 := size_le (by omega)
  have s15 : leS 15 := size_le (by omega)
  have s18 : leS 18 := size_le (by omega)
  have s19 : leS 19 := size_le (by omega)
  have s16 : leS 16 := size_le (by omega)
  unfold F_law_marks_v11 p_law_marks_v11
  simp only [x_runF]
  simp -implicitDefEqProofs [s1, s3, s6, s9, s12, s15, s18, s19, s16, sp0, sp1, sp2, cc0, cc1, cc2, hWs, hHs, e]
/-! texts by their signs -/
theorem spl_count {c : Nat} : ∀ (l acc : List Nat), (TL.spl [c] 0 acc l).length = l.count c + 1
  | [], acc => by rw [TL.spl_nil]; simp
  | a :: l, acc => by
    by_cases h : a = c
    · subst h
      rw [TL.spl_hit (by simp [TL.pre])]
      show (TL.spl [a] 0 [] l).length + 1 = _
      rw [spl_count l []]
      simp
    · rw [TL.spl_miss (by simp [TL.pre, h]), spl_count l]
      rw [List.count_cons_of_ne (by simpa using h)]
theorem split_n {x : Str} : (Txt.split x (Str.ofString "\n")).length = (TL.tl x).count 10 + 1 := by
  have e := TL.split_spl x (Str.ofString "\n") (by rw [tl_nl]; simp) (TL.kind_ok (by decide +kernel))
  have := congrArg List.length e
  rw [List.length_map, tl_nl, spl_count] at this
  exact this

end DL

noncomputable section
namespace DL
open PySem L2
def b_numbers_by_v4_1 : DSt → Flow := fseq (fSet 5 (fUser F_number_of_v2 (fCons (fVar 4) fNil))) (fseq (fIfS (fB (fIsN false (fVar 5))) (fRaiseA "NoText" (fOp (lift2 addO) (fVar 1) (fVar 3))) fnext) (fDrop (fApp 2 (fVar 5))))
abbrev o_numbers_by_v4_1 : List PyData → DSt → Flow := loopF (bTup 2 (bCons (bName 3) (bCons (bName 4) bNil))) b_numbers_by_v4_1
def p_numbers_by_v4 : DSt → Flow := fseq (fSet 2 (fLst fNil)) (fseq (fFor (fEnum (fCons (fVar 0) fNil)) (bTup 2 (bCons (bName 3) (bCons (bName 4) bNil))) b_numbers_by_v4_1) (fRet (fVar 2)))
def F_numbers_by_v4 : List R → Pw → FRes := runF 6 2 p_numbers_by_v4
def e_tie_by_v2_1 : M R := fUser F_number_of_v2 (fCons (fVar 3) fNil)
abbrev l_tie_by_v2_1 : M R := fLc (fLstI (fVar 1)) (bName 3) fYes (e_tie_by_v2_1) [3]
def p_tie_by_v2 : DSt → Flow := fseq (fSet 1 (fSplit (fVar 0) (fC (.str "-")))) (fseq (fSet 2 (fLc (fLstI (fVar 1)) (bName 3) fYes (e_tie_by_v2_1) [3])) (fseq (fIfS (fOr (fB (fOp (lift2 neO) (fCall lenO (pCons (fVar 2) fNil)) (fC (.int 2)))) (fB (fOp (lift2 inO) (fC .none) (fVar 2)))) (fRet (fC .none)) fnext) (fRet (fTup (fCons (fOp (lift2 ixO) (fVar 2) (fC (.int 0))) (fCons (fOp (lift2 ixO) (fVar 2) (fC (.int 1))) fNil))))))
def F_tie_by_v2 : List R → Pw → FRes := runF 4 1 p_tie_by_v2
def b_ties_by_v8_1 : DSt → Flow := fseq (fSet 4 (fUser F_tie_by_v2 (fCons (fVar 3) fNil))) (fseq (fIfS (fB (fIsN false (fVar 4))) (fRaiseA "NoText" (fOp (lift2 addO) (fC (.int 1)) (fVar 2))) fnext) (fDrop (fApp 1 (fVar 4))))
abbrev o_ties_by_v8_1 : List PyData → DSt → Flow := loopF (bTup 2 (bCons (bName 2) (bCons (bName 3) bNil))) b_ties_by_v8_1
def p_ties_by_v8 : DSt → Flow := fseq (fSet 1 (fLst fNil)) (fseq (fFor (fEnum (fCons (fVar 0) fNil)) (bTup 2 (bCons (bName 2) (bCons (bName 3) bNil))) b_ties_by_v8_1) (fRet (fVar 1)))
def F_ties_by_v8 : List R → Pw → FRes := runF 5 1 p_ties_by_v8
def e_law_tie_v2_1 : M R := fUser F_law_figured_v2 (fCons (fVar 2) fNil)
abbrev l_law_tie_v2_1 : M R := fLc (fLstI (fSplit (fVar 0) (fC (.str "-")))) (bName 2) fYes (e_law_tie_v2_1) [2]
def p_law_tie_v2 : DSt → Flow := fseq (fSet 1 (fLc (fLstI (fSplit (fVar 0) (fC (.str "-")))) (bName 2) fYes (e_law_tie_v2_1) [2])) (fseq (fIfS (fOr (fB (fOp (lift2 neO) (fCall lenO (pCons (fVar 1) fNil)) (fC (.int 2)))) (fB (fOp (lift2 inO) (fC .none) (fVar 1)))) (fRet (fC .none)) fnext) (fRet (fCall tupleO (pCons (fVar 1) fNil))))
def F_law_tie_v2 : List R → Pw → FRes := runF 3 1 p_law_tie_v2
/-! papers as texts: numbers and ties -/
def numsV : List Str → Nat → Sum (List Int) Nat
  | [], _ => .inl []
  | x :: xs, p => match numV x with
    | none => .inr p
    | some n => match numsV xs (p + 1) with
      | .inl l => .inl (n :: l)
      | .inr q => .inr q
def tieV (x : Str) : Option (Int × Int) := match allS ((Txt.split x (Str.ofString "-")).map numV) with
  | some [a, b] => some (a, b)
  | _ => none
def tieR : Option (Int × Int) → PyData
  | none => .none
  | some p => .tuple [.int p.1, .int p.2]
def tiesV : List Str → Nat → Sum (List (Int × Int)) Nat
  | [], _ => .inl []
  | x :: xs, p => match tieV x with
    | none => .inr p
    | some n => match tiesV xs (p + 1) with
      | .inl l => .inl (n :: l)
      | .inr q => .inr q
structure Wd (x : Str) : Prop where
  l : x.length ≤ 980
  s : 32 ∉ TL.tl x
theorem Wd.le {x : Str} (h : Wd x) : leS x.length := size_le (by have := h.l; omega)
theorem numbers_loop {W : List PyData} {w : Pw} {first : Nat} : ∀ (xs : List Str) (k : Nat) (f : List Int) (v3 v4 v5 : Sl), (∀ x ∈ xs, Wd x) → f.length + xs.length ≤ 1000 →
    (∀ l, numsV xs (first + k) = .inl l → ∃ u3 u4 u5, loopF (bTup 2 (bCons (bName 3) (bCons (bName 4) bNil))) b_numbers_by_v4_1 ((xs.zipIdx k).map enF) ⟨[.val (.list W), .val (.int ((first : Nat) : Int)), .own (f.map .int), v3, v4, v5], w⟩ = .next ⟨[.val (.list W), .val (.int ((first : Nat) : Int)), .own ((f ++ l).map .int), u3, u4, u5], w⟩) ∧
    (∀ j, numsV xs (first + k) = .inr j → ∃ s', s'.w = w ∧ loopF (bTup 2 (bCons (bName 3) (bCons (bName 4) bNil))) b_numbers_by_v4_1 ((xs.zipIdx k).map enF) ⟨[.val (.list W), .val (.int ((first : Nat) : Int)), .own (f.map .int), v3, v4, v5], w⟩ = .err ⟨"NoText", some (.int (j : Int))⟩ s')
  | [], k, f, v3, v4, v5, _, _ => ⟨fun g h => by cases h; rw [List.append_nil]; exact ⟨v3, v4, v5, rfl⟩, fun j h => by cases h⟩
  | y :: xs, k, f, v3, v4, v5, hw, hl => by
    have e := numb_any (w := w) (hw y (by simp)).le
    have st : bTup 2 (bCons (bName 3) (bCons (bName 4) bNil)) (enF (y, k)) ⟨[.val (.list W), .val (.int ((first : Nat) : Int)), .own (f.map .int), v3, v4, v5], w⟩ = some ⟨[.val (.list W), .val (.int ((first : Nat) : Int)), .own (f.map .int), .val (.int ((k : Nat) : Int)), .val (.str y), v5], w⟩ := rfl
    rw [List.zipIdx_cons, List.map_cons, loop_cons st]
    simp only [List.length_cons] at hl
    have ec : ((first + k : Nat) : Int) = (first : Int) + (k : Int) := by omega
    cases q : numV y with
    | none =>
      rw [q] at e
      have hb : b_numbers_by_v4_1 ⟨[.val (.list W), .val (.int ((first : Nat) : Int)), .own (f.map .int), .val (.int ((k : Nat) : Int)), .val (.str y), v5], w⟩ = .err ⟨"NoText", some (.int ((first : Int) + (k : Int)))⟩ ⟨[.val (.list W), .val (.int ((first : Nat) : Int)), .own (f.map .int), .val (.int ((k : Nat) : Int)), .val (.str y), .val .none], w⟩ := by
        unfold b_numbers_by_v4_1
        simp -implicitDefEqProofs [e, optI]
      rw [hb]
      refine ⟨fun g h => ?_, fun j h => ?_⟩ <;> simp only [numsV, q] at h <;> cases h
      exact ⟨_, rfl, by rw [ec]⟩
    | some n =>
      rw [q] at e
      have lt : ltS (f.map PyData.int).length := size_lt (by rw [List.length_map]; omega)
      have hb : b_numbers_by_v4_1 ⟨[.val (.list W), .val (.int ((first : Nat) : Int)), .own (f.map .int), .val (.int ((k : Nat) : Int)), .val (.str y), v5], w⟩ = .next ⟨[.val (.list W), .val (.int ((first : Nat) : Int)), .own ((f ++ [n]).map .int), .val (.int ((k : Nat) : Int)), .val (.str y), .val (.int (n))], w⟩ := by
        rw [List.map_append]
        obtain ⟨F, hF⟩ : ∃ F, f.map PyData.int = F := ⟨_, rfl⟩
        rw [hF] at lt ⊢
        unfold b_numbers_by_v4_1
        simp -implicitDefEqProofs [e, optI, lt]
      rw [hb]
      dsimp only
      have ih := numbers_loop (W := W) (w := w) (first := first) xs (k + 1) (f ++ [n]) (.val (.int ((k : Nat) : Int))) (.val (.str y)) (.val (.int (n))) (fun z hz => hw z (by simp [hz])) (by simp; omega)
      rw [show first + (k + 1) = first + k + 1 by omega] at ih
      refine ⟨fun g h => ?_, fun j h => ?_⟩
      · simp only [numsV, q] at h
        cases q2 : numsV xs (first + k + 1) with
        | inr j => rw [q2] at h; cases h
        | inl l =>
          rw [q2] at h
          cases h
          have := ih.1 l q2
          rwa [List.append_assoc] at this
      · simp only [numsV, q] at h
        cases q2 : numsV xs (first + k + 1) with
        | inl l => rw [q2] at h; cases h
        | inr j2 =>
          rw [q2] at h
          cases h
          exact ih.2 _ q2
theorem numbers_any {xs : List Str} {first : Nat} {w : Pw} (hw : ∀ x ∈ xs, Wd x) (hl : xs.length ≤ 1000) : (∀ l, numsV xs first = .inl l → F_numbers_by_v4 [.val (.list (xs.map .str)), .val (.int ((first : Nat) : Int))] w = .ok (.new (l.map .int)) w) ∧ (∀ j, numsV xs first = .inr j → F_numbers_by_v4 [.val (.list (xs.map .str)), .val (.int ((first : Nat) : Int))] w = .err ⟨"NoText", some (.int (j : Int))⟩ w) := by
  have lp := numbers_loop (W := xs.map .str) (w := w) (first := first) xs 0 [] .no .no .no hw (by simpa using hl)
  rw [Nat.add_zero] at lp
  have en := enum_str (l := xs)
  obtain ⟨D, hD⟩ : ∃ D, xs.map PyData.str = D := ⟨_, rfl⟩
  rw [hD] at lp en ⊢
  rw [List.map_nil] at lp
  refine ⟨fun l h => ?_, fun j h => ?_⟩
  · obtain ⟨u3, u4, u5, o⟩ := lp.1 l h
    rw [List.nil_append] at o
    unfold F_numbers_by_v4 p_numbers_by_v4
    simp only [x_runF]
    simp -implicitDefEqProofs [en, o]
  · obtain ⟨s', hs, o⟩ := lp.2 j h
    unfold F_numbers_by_v4 p_numbers_by_v4
    simp only [x_runF]
    simp -implicitDefEqProofs [en, o, hs]
theorem sdash : ((Str.ofString "-").length == 0) = false := by decide
theorem parts_n {x : Str} : (Txt.split x (Str.ofString "-")).length ≤ x.length + 1 := by
  have t : TL.tl (Str.ofString "-") = [45] := by decide
  have e := TL.split_spl x (Str.ofString "-") (by rw [t]; simp) (TL.kind_ok (by decide +kernel))
  have := congrArg List.length e
  rw [List.length_map, t, spl_count] at this
  rw [this, wI_len]
  have := List.count_le_length (a := 45) (l := TL.tl x)
  omega
theorem tie_any {x : Str} {w : Pw} (h : Wd x) : F_tie_by_v2 [.val (.str x)] w = .ok (.val (tieR (tieV x))) w := by
  have hl := h.l
  have ls : leS (x.length + 2) := size_le (by omega)
  have lp := parts_n (x := x)
  have e1 : ∀ v2 : Sl, l_tie_by_v2_1 ⟨[.val (.str x), .own ((Txt.split x (Str.ofString "-")).map .str), v2, .no], w⟩ = .ok (.new (((Txt.split x (Str.ofString "-")).map numV).map optI)) ⟨[.val (.str x), .val (.list ((Txt.split x (Str.ofString "-")).map .str)), v2, .no], w⟩ := fun v2 => by
    rw [List.map_map]
    refine lc_all (fun p : Str => ⟨[.val (.str x), .val (.list ((Txt.split x (Str.ofString "-")).map .str)), v2, .val (.str p)], w⟩) _ (f := fun p : Str => PyData.str p) (l := Txt.split x (Str.ofString "-")) (by simp -implicitDefEqProofs) (by omega) rfl (fun a _ => by rfl) (fun a _ => by rfl) (fun p hp => ?_)
    have hs := PyProof.Rows.part_short hp
    have e := numb_any (w := w) (x := p) (size_le (by omega))
    unfold e_tie_by_v2_1
    simp -implicitDefEqProofs [e]
  unfold tieV
  obtain ⟨vs, hvs⟩ : ∃ vs, (Txt.split x (Str.ofString "-")).map numV = vs := ⟨_, rfl⟩
  have lv : vs.length ≤ 1000 := by rw [← hvs, List.length_map]; omega
  obtain ⟨SD, hSD⟩ : ∃ SD, (Txt.split x (Str.ofString "-")).map PyData.str = SD := ⟨_, rfl⟩
  rw [hvs] at e1 ⊢
  rw [hSD] at e1
  have e1 := e1 .no
  cases q : allS vs with
  | none =>
    have en := none_inO (allS_none q)
    have lD : (vs.map optI).length = vs.length := List.length_map _
    obtain ⟨D, hD⟩ : ∃ D, vs.map optI = D := ⟨_, rfl⟩
    rw [hD] at e1 en lD
    unfold F_tie_by_v2 p_tie_by_v2
    simp only [x_runF]
    simp -implicitDefEqProofs [ls, sdash, hSD, e1, en, lD, tieR]
  | some ns =>
    have ev := allS_some q
    have eD : vs.map optI = ns.map .int := by rw [ev, List.map_map]; rfl
    rw [eD] at e1
    have en := none_in (ns := ns)
    match ns with
    | [a, b] =>
      unfold F_tie_by_v2 p_tie_by_v2
      simp only [x_runF]
      simp only [List.map_cons, List.map_nil] at e1 en
      simp -implicitDefEqProofs [ls, sdash, hSD, e1, en, tieR]
    | [] =>
      unfold F_tie_by_v2 p_tie_by_v2
      simp only [x_runF]
      simp only [List.map_cons, List.map_nil] at e1 en
      simp -implicitDefEqProofs [ls, sdash, hSD, e1, en, tieR]
    | [a] =>
      unfold F_tie_by_v2 p_tie_by_v2
      simp only [x_runF]
      simp only [List.map_cons, List.map_nil] at e1 en
      simp -implicitDefEqProofs [ls, sdash, hSD, e1, en, tieR]
    | a :: b :: c :: ns =>
      have lD : ((a :: b :: c :: ns).map PyData.int).length = ns.length + 3 := by simp
      obtain ⟨D, hD⟩ : ∃ D, (a :: b :: c :: ns).map PyData.int = D := ⟨_, rfl⟩
      rw [hD] at e1 en lD
      have c3 : ¬ (ns.length : Int) + 3 = 2 := by omega
      have lo : lenO [.list D] = some (.val (.int ((ns.length + 3 : Nat) : Int))) := by show some (R.val (.int (D.length : Int))) = _; rw [lD]
      unfold F_tie_by_v2 p_tie_by_v2
      simp only [x_runF]
      simp -implicitDefEqProofs [ls, sdash, hSD, e1, en, tieR, lo, c3]
theorem law_tie_any {x : Str} {w : Pw} (h : Wd x) : F_law_tie_v2 [.val (.str x)] w = .ok (.val (tieR (tieV x))) w := by
  have hl := h.l
  have ls : leS (x.length + 2) := size_le (by omega)
  have lp := parts_n (x := x)
  have e1 : l_law_tie_v2_1 ⟨[.val (.str x), .no, .no], w⟩ = .ok (.new (((Txt.split x (Str.ofString "-")).map numV).map optI)) ⟨[.val (.str x), .no, .no], w⟩ := by
    rw [List.map_map]
    refine lc_all (fun p : Str => ⟨[.val (.str x), .no, .val (.str p)], w⟩) _ (f := fun p : Str => PyData.str p) (l := Txt.split x (Str.ofString "-")) (by simp -implicitDefEqProofs [ls, sdash]) (by omega) rfl (fun a _ => by rfl) (fun a _ => by rfl) (fun p hp => ?_)
    have hs := PyProof.Rows.part_short hp
    have e := figured_any (w := w) (x := p) (size_le (by omega))
    unfold e_law_tie_v2_1
    simp -implicitDefEqProofs [e]
  unfold tieV
  obtain ⟨vs, hvs⟩ : ∃ vs, (Txt.split x (Str.ofString "-")).map numV = vs := ⟨_, rfl⟩
  have lv : vs.length ≤ 1000 := by rw [← hvs, List.length_map]; omega
  rw [hvs] at e1 ⊢
  cases q : allS vs with
  | none =>
    have en := none_inO (allS_none q)
    have lD : (vs.map optI).length = vs.length := List.length_map _
    obtain ⟨D, hD⟩ : ∃ D, vs.map optI = D := ⟨_, rfl⟩
    rw [hD] at e1 en lD
    unfold F_law_tie_v2 p_law_tie_v2
    simp only [x_runF]
    simp -implicitDefEqProofs [ls, sdash, e1, en, lD, tieR]
  | some ns =>
    have ev := allS_some q
    have eD : vs.map optI = ns.map .int := by rw [ev, List.map_map]; rfl
    rw [eD] at e1
    have en := none_in (ns := ns)
    match ns with
    | [a, b] =>
      unfold F_law_tie_v2 p_law_tie_v2
      simp only [x_runF]
      simp only [List.map_cons, List.map_nil] at e1 en
      simp -implicitDefEqProofs [ls, sdash, e1, en, tieR]
    | [] =>
      unfold F_law_tie_v2 p_law_tie_v2
      simp only [x_runF]
      simp only [List.map_cons, List.map_nil] at e1 en
      simp -implicitDefEqProofs [ls, sdash, e1, en, tieR]
    | [a] =>
      unfold F_law_tie_v2 p_law_tie_v2
      simp only [x_runF]
      simp only [List.map_cons, List.map_nil] at e1 en
      simp -implicitDefEqProofs [ls, sdash, e1, en, tieR]
    | a :: b :: c :: ns =>
      have lD : ((a :: b :: c :: ns).map PyData.int).length = ns.length + 3 := by simp
      obtain ⟨D, hD⟩ : ∃ D, (a :: b :: c :: ns).map PyData.int = D := ⟨_, rfl⟩
      rw [hD] at e1 en lD
      have c3 : ¬ (ns.length : Int) + 3 = 2 := by omega
      have lo : lenO [.list D] = some (.val (.int ((ns.length + 3 : Nat) : Int))) := by show some (R.val (.int (D.length : Int))) = _; rw [lD]
      unfold F_law_tie_v2 p_law_tie_v2
      simp only [x_runF]
      simp -implicitDefEqProofs [ls, sdash, e1, en, tieR, lo, c3]
def ppT (p : Int × Int) : PyData := .tuple [.int p.1, .int p.2]
theorem ties_loop {W : List PyData} {w : Pw} : ∀ (xs : List Str) (k : Nat) (f : List (Int × Int)) (v3 v4 v5 : Sl), (∀ x ∈ xs, Wd x) → f.length + xs.length ≤ 1000 →
    (∀ l, tiesV xs (1 + k) = .inl l → ∃ u3 u4 u5, loopF (bTup 2 (bCons (bName 2) (bCons (bName 3) bNil))) b_ties_by_v8_1 ((xs.zipIdx k).map enF) ⟨[.val (.list W), .own (f.map ppT), v3, v4, v5], w⟩ = .next ⟨[.val (.list W), .own ((f ++ l).map ppT), u3, u4, u5], w⟩) ∧
    (∀ j, tiesV xs (1 + k) = .inr j → ∃ s', s'.w = w ∧ loopF (bTup 2 (bCons (bName 2) (bCons (bName 3) bNil))) b_ties_by_v8_1 ((xs.zipIdx k).map enF) ⟨[.val (.list W), .own (f.map ppT), v3, v4, v5], w⟩ = .err ⟨"NoText", some (.int (j : Int))⟩ s')
  | [], k, f, v3, v4, v5, _, _ => ⟨fun g h => by cases h; rw [List.append_nil]; exact ⟨v3, v4, v5, rfl⟩, fun j h => by cases h⟩
  | y :: xs, k, f, v3, v4, v5, hw, hl => by
    have e := tie_any (w := w) (hw y (by simp))
    have st : bTup 2 (bCons (bName 2) (bCons (bName 3) bNil)) (enF (y, k)) ⟨[.val (.list W), .own (f.map ppT), v3, v4, v5], w⟩ = some ⟨[.val (.list W), .own (f.map ppT), .val (.int ((k : Nat) : Int)), .val (.str y), v5], w⟩ := rfl
    rw [List.zipIdx_cons, List.map_cons, loop_cons st]
    simp only [List.length_cons] at hl
    have ec : ((1 + k : Nat) : Int) = (1 : Int) + (k : Int) := by omega
    cases q : tieV y with
    | none =>
      rw [q] at e
      have hb : b_ties_by_v8_1 ⟨[.val (.list W), .own (f.map ppT), .val (.int ((k : Nat) : Int)), .val (.str y), v5], w⟩ = .err ⟨"NoText", some (.int ((1 : Int) + (k : Int)))⟩ ⟨[.val (.list W), .own (f.map ppT), .val (.int ((k : Nat) : Int)), .val (.str y), .val .none], w⟩ := by
        unfold b_ties_by_v8_1
        simp -implicitDefEqProofs [e, tieR]
      rw [hb]
      refine ⟨fun g h => ?_, fun j h => ?_⟩ <;> simp only [tiesV, q] at h <;> cases h
      exact ⟨_, rfl, by rw [ec]⟩
    | some n =>
      rw [q] at e
      have lt : ltS (f.map ppT).length := size_lt (by rw [List.length_map]; omega)
      have hb : b_ties_by_v8_1 ⟨[.val (.list W), .own (f.map ppT), .val (.int ((k : Nat) : Int)), .val (.str y), v5], w⟩ = .next ⟨[.val (.list W), .own ((f ++ [n]).map ppT), .val (.int ((k : Nat) : Int)), .val (.str y), (.val (ppT n))], w⟩ := by
        rw [List.map_append]
        obtain ⟨F, hF⟩ : ∃ F, f.map ppT = F := ⟨_, rfl⟩
        rw [hF] at lt ⊢
        unfold b_ties_by_v8_1
        simp -implicitDefEqProofs [e, tieR, lt]
        rfl
      rw [hb]
      dsimp only
      have ih := ties_loop (W := W) (w := w)  xs (k + 1) (f ++ [n]) (.val (.int ((k : Nat) : Int))) (.val (.str y)) ((.val (ppT n))) (fun z hz => hw z (by simp [hz])) (by simp; omega)
      rw [show 1 + (k + 1) = 1 + k + 1 by omega] at ih
      refine ⟨fun g h => ?_, fun j h => ?_⟩
      · simp only [tiesV, q] at h
        cases q2 : tiesV xs (1 + k + 1) with
        | inr j => rw [q2] at h; cases h
        | inl l =>
          rw [q2] at h
          cases h
          have := ih.1 l q2
          rwa [List.append_assoc] at this
      · simp only [tiesV, q] at h
        cases q2 : tiesV xs (1 + k + 1) with
        | inl l => rw [q2] at h; cases h
        | inr j2 =>
          rw [q2] at h
          cases h
          exact ih.2 _ q2
theorem ties_any {xs : List Str} {w : Pw} (hw : ∀ x ∈ xs, Wd x) (hl : xs.length ≤ 1000) : (∀ l, tiesV xs 1 = .inl l → F_ties_by_v8 [.val (.list (xs.map .str))] w = .ok (.new (l.map ppT)) w) ∧ (∀ j, tiesV xs 1 = .inr j → F_ties_by_v8 [.val (.list (xs.map .str))] w = .err ⟨"NoText", some (.int (j : Int))⟩ w) := by
  have lp := ties_loop (W := xs.map .str) (w := w)  xs 0 [] .no .no .no hw (by simpa using hl)
  rw [Nat.add_zero] at lp
  have en := enum_str (l := xs)
  obtain ⟨D, hD⟩ : ∃ D, xs.map PyData.str = D := ⟨_, rfl⟩
  rw [hD] at lp en ⊢
  rw [List.map_nil] at lp
  refine ⟨fun l h => ?_, fun j h => ?_⟩
  · obtain ⟨u3, u4, u5, o⟩ := lp.1 l h
    rw [List.nil_append] at o
    unfold F_ties_by_v8 p_ties_by_v8
    simp only [x_runF]
    simp -implicitDefEqProofs [en, o]
  · obtain ⟨s', hs, o⟩ := lp.2 j h
    unfold F_ties_by_v8 p_ties_by_v8
    simp only [x_runF]
    simp -implicitDefEqProofs [en, o, hs]

end DL

noncomputable section
namespace DL
open PySem L2

/-! lists of numbers between strokes: the plain law -/
def strk : Str := Str.ofString "/"
def skipV (first : Bool) (ws : List Str) (p : Nat) : Option (List Str × Nat) := if first = true then some (ws, p) else match ws with
  | w :: r => if w = strk then some (r, p + 1) else none
  | [] => none
def listsV : Bool → List Nat → List Str → Nat → Sum (List (List Int)) Nat
  | _, [], ws, p => if ws = [] then .inl [] else .inr p
  | first, s :: ss, ws, p => match skipV first ws p with
    | none => .inr p
    | some (r, p1) => match numsV (r.take s) p1 with
      | .inr q => .inr q
      | .inl l => if r.length < s then .inr (p1 + r.length) else match listsV false ss (r.drop s) (p1 + s) with
        | .inl ls => .inl (l :: ls)
        | .inr q => .inr q
def okM (m : Bool) (w : Str) : Bool := if m then decide (w = strk) else (numV w).isSome
def checkM : List Bool → List Str → Nat → Option Nat
  | [], [], _ => none
  | [], _ :: _, p => some p
  | _ :: _, [], p => some p
  | m :: ms, w :: ws, p => if okM m w = true then checkM ms ws (p + 1) else some p
def marksM : Bool → List Nat → List Bool
  | _, [] => []
  | first, s :: ss => (if first then [] else [true]) ++ List.replicate s false ++ marksM false ss
theorem check_nil {ms : List Bool} {p : Nat} : checkM ms [] p = if ms = [] then none else some p := by
  cases ms <;> simp [checkM]
theorem check_nums : ∀ (s : Nat) (ws : List Str) (p : Nat) (ms : List Bool), checkM (List.replicate s false ++ ms) ws p = match numsV (ws.take s) p with
    | .inr q => some q
    | .inl _ => if ws.length < s then some (p + ws.length) else checkM ms (ws.drop s) (p + s)
  | 0, ws, p, ms => by simp [numsV]
  | s + 1, [], p, ms => by simp [numsV, check_nil, List.replicate_succ]
  | s + 1, w :: ws, p, ms => by
    rw [List.replicate_succ, List.cons_append, checkM, List.take_succ_cons, numsV]
    cases q : numV w with
    | none => simp [okM, q]
    | some n =>
      simp only [okM, q, Option.isSome_some, Bool.false_eq_true, if_false, if_true]
      rw [check_nums s ws (p + 1) ms]
      cases q2 : numsV (ws.take s) (p + 1) with
      | inr j => rfl
      | inl l =>
        simp only [List.length_cons, List.drop_succ_cons]
        by_cases c : ws.length < s
        · rw [if_pos c, if_pos (by omega), show p + 1 + ws.length = p + (ws.length + 1) by omega]
        · rw [if_neg c, if_neg (by omega), show p + 1 + s = p + (s + 1) by omega]
theorem check_lists : ∀ (ss : List Nat) (first : Bool) (ws : List Str) (p : Nat), checkM (marksM first ss) ws p = match listsV first ss ws p with
    | .inl _ => none
    | .inr q => some q
  | [], first, ws, p => by
    cases ws <;> simp [marksM, listsV, checkM]
  | s :: ss, first, ws, p => by
    have key : ∀ (r : List Str) (p1 : Nat), checkM (List.replicate s false ++ marksM false ss) r p1 = match (match numsV (r.take s) p1 with
        | .inr q => (.inr q : Sum (List (List Int)) Nat)
        | .inl l => if r.length < s then .inr (p1 + r.length) else match listsV false ss (r.drop s) (p1 + s) with
          | .inl ls => .inl (l :: ls)
          | .inr q => .inr q) with
        | .inl _ => none
        | .inr q => some q := fun r p1 => by
      rw [check_nums]
      cases numsV (r.take s) p1 with
      | inr q => rfl
      | inl l =>
        dsimp only
        by_cases c : r.length < s
        · rw [if_pos c, if_pos c]
        · rw [if_neg c, if_neg c, check_lists ss false]
          cases listsV false ss (r.drop s) (p1 + s) <;> rfl
    unfold marksM listsV skipV
    cases first with
    | true => simpa using key ws p
    | false =>
      cases ws with
      | nil => simp [checkM]
      | cons w r =>
        by_cases c : w = strk
        · subst c
          have := key r (p + 1)
          simpa [checkM, okM] using this
        · simp [checkM, okM, c]
theorem numV_int {x : Str} {n : Int} (h : numV x = some n) : intTO [.str x] = some (.val (.int n)) ∧ x ≠ strk := by
  rcases word_kind x with ⟨e0, hv⟩ | ⟨e0, h30, hv⟩ | ⟨e0, h30, hd, hv⟩ | ⟨e0, h30, hd, q, z, hv⟩ | ⟨e0, h30, hd, q, hv⟩ <;> rw [hv] at h <;> cases h
  obtain ⟨c, c1, c2, c3⟩ := word_looks h30 hd e0
  refine ⟨c3, fun z => ?_⟩
  rw [z] at hd
  revert hd
  decide
theorem cut_nums {dl : List (List Int)} : ∀ (s : Nat) (ws : List Str) (p : Nat) (l ns : List Int), numsV (ws.take s) p = .inl l → s ≤ ws.length → cutW strk ws dl ns = cutW strk (ws.drop s) dl (ns ++ l)
  | 0, ws, p, l, ns, h, _ => by
    simp [numsV] at h
    subst h
    simp
  | s + 1, [], p, l, ns, h, hs => by simp at hs
  | s + 1, w :: ws, p, l, ns, h, hs => by
    rw [List.take_succ_cons, numsV] at h
    cases q : numV w with
    | none => rw [q] at h; cases h
    | some n =>
      rw [q] at h
      dsimp only at h
      cases q2 : numsV (ws.take s) (p + 1) with
      | inr j => rw [q2] at h; cases h
      | inl l2 =>
        rw [q2] at h
        cases h
        obtain ⟨i1, i2⟩ := numV_int q
        rw [cutW, if_neg i2, i1]
        dsimp only
        rw [cut_nums s ws (p + 1) l2 (ns ++ [n]) q2 (by simpa using hs), List.append_assoc]
        rfl
theorem lists_skip {s : Nat} {ss : List Nat} {r : List Str} {p : Nat} : listsV false (s :: ss) (strk :: r) p = listsV true (s :: ss) r (p + 1) := by
  simp [listsV, skipV]
theorem cut_lists : ∀ (ss : List Nat) (s : Nat) (ws : List Str) (p : Nat) (dl : List (List Int)) (g : List (List Int)), listsV true (s :: ss) ws p = .inl g → ∃ g0 l, g = g0 ++ [l] ∧ cutW strk ws dl [] = some (dl ++ g0, l)
  | ss, s, ws, p, dl, g, h => by
    rw [listsV, show skipV true ws p = some (ws, p) from by simp [skipV]] at h
    dsimp only at h
    cases q : numsV (ws.take s) p with
    | inr j => rw [q] at h; cases h
    | inl l =>
      rw [q] at h
      dsimp only at h
      by_cases c : ws.length < s
      · rw [if_pos c] at h; cases h
      · rw [if_neg c] at h
        have e := cut_nums (dl := dl) s ws p l [] q (by omega)
        rw [List.nil_append] at e
        cases q2 : listsV false ss (ws.drop s) (p + s) with
        | inr j => rw [q2] at h; cases h
        | inl ls =>
          rw [q2] at h
          cases h
          cases ss with
          | nil =>
            rw [listsV] at q2
            by_cases z : ws.drop s = []
            · rw [if_pos z] at q2
              cases q2
              exact ⟨[], l, rfl, by rw [e, z, cutW, List.append_nil]⟩
            · rw [if_neg z] at q2; cases q2
          | cons s2 ss =>
            cases z : ws.drop s with
            | nil => rw [z] at q2; simp [listsV, skipV] at q2
            | cons w r =>
              by_cases cw : w = strk
              · subst cw
                rw [z, lists_skip] at q2
                obtain ⟨g0, l2, rfl, e2⟩ := cut_lists ss s2 r (p + s + 1) (dl ++ [l]) ls q2
                refine ⟨l :: g0, l2, rfl, ?_⟩
                rw [e, z, cutW, if_pos rfl, e2, List.append_assoc]
                rfl
              · rw [z] at q2; simp [listsV, skipV, cw] at q2

end DL

noncomputable section
namespace DL
open PySem L2

/-! texts by their signs: how long, how many rows -/
def RB (A B : Nat) (l : List Nat) : Prop := ∀ s, s <:+: l → 10 ∉ s → s.length ≤ A ∧ s.count 62 ≤ B
def Ft (A B C : Nat) (l : List Nat) : Prop := RB A B l ∧ l.count 10 + 1 ≤ C
theorem infix_app {s a b : List Nat} (h : s <:+: a ++ b) : s <:+: a ∨ s <:+: b ∨ ∃ s1 s2, s = s1 ++ s2 ∧ s1 <:+ a ∧ s2 <+: b := by
  obtain ⟨p, q, e⟩ := h
  rw [List.append_assoc] at e
  rcases List.append_eq_append_iff.mp e with ⟨m, e1, e2⟩ | ⟨m, e1, e2⟩
  · rcases List.append_eq_append_iff.mp e2 with ⟨k, e3, e4⟩ | ⟨k, e3, e4⟩
    · exact .inl ⟨p, k, by rw [e1, e3, List.append_assoc]⟩
    · exact .inr (.inr ⟨m, k, e3, ⟨p, e1.symm⟩, ⟨q, e4.symm⟩⟩)
  · exact .inr (.inl ⟨m, q, by rw [e2, List.append_assoc]⟩)
theorem RB.app {A B A' B' : Nat} {a b : List Nat} (h1 : RB A B a) (h2 : RB A' B' b) : RB (A + A') (B + B') (a ++ b) := fun s hs h10 => by
  rcases infix_app hs with h | h | ⟨s1, s2, rfl, h3, h4⟩
  · have := h1 s h h10; omega
  · have := h2 s h h10; omega
  · have h5 := h1 s1 h3.isInfix (fun z => h10 (by simp [z]))
    have h6 := h2 s2 h4.isInfix (fun z => h10 (by simp [z]))
    rw [List.length_append, List.count_append]
    omega
theorem RB.sep {A B : Nat} {a b : List Nat} (h1 : RB A B a) (h2 : RB A B b) : RB A B (a ++ 10 :: b) := fun s hs h10 => by
  have hc : ∀ t, t <+: 10 :: b → 10 ∉ t → t = [] := fun t ht hn => by
    cases t with
    | nil => rfl
    | cons c t =>
      obtain ⟨q, e⟩ := ht
      have : c = 10 := (List.cons.inj e).1
      exact absurd (by simp [this]) hn
  rcases infix_app hs with h | h | ⟨s1, s2, rfl, h3, h4⟩
  · exact h1 s h h10
  · rcases List.infix_cons_iff.mp h with h | h
    · rw [hc s h h10]; simp
    · exact h2 s h h10
  · rw [hc s2 h4 (fun z => h10 (by simp [z])), List.append_nil]
    exact h1 s1 h3.isInfix (fun z => h10 (by simp [z]))
theorem RB.sub {A B : Nat} {a b : List Nat} (h : RB A B a) (s : b <:+: a) : RB A B b := fun t ht h10 => h t (ht.trans s) h10
theorem RB.le {A B A' B' : Nat} {a : List Nat} (h : RB A B a) (hA : A ≤ A') (hB : B ≤ B') : RB A' B' a := fun t ht h10 => by have := h t ht h10; omega
theorem RB.short {k : Nat} {a : List Nat} (h : a.length ≤ k) : RB k k a := fun t ht _ => by
  have := ht.length_le
  have := List.count_le_length (a := 62) (l := t)
  omega
theorem Ft.sub {A B C : Nat} {a b : List Nat} (h : Ft A B C a) (s : b <:+: a) : Ft A B C b := ⟨h.1.sub s, by have := h.2; have := s.sublist.count_le 10; omega⟩
theorem Ft.app {A B C A' B' C' : Nat} {a b : List Nat} (h1 : Ft A B C a) (h2 : Ft A' B' C' b) : Ft (A + A') (B + B') (C + C') (a ++ b) := ⟨h1.1.app h2.1, by rw [List.count_append]; have := h1.2; have := h2.2; omega⟩
theorem Ft.le {A B C A' B' C' : Nat} {a : List Nat} (h : Ft A B C a) (hA : A ≤ A') (hB : B ≤ B') (hC : C ≤ C') : Ft A' B' C' a := ⟨h.1.le hA hB, Nat.le_trans h.2 hC⟩
theorem Ft.short {k : Nat} {a : List Nat} (h : a.length ≤ k) : Ft k k (k + 1) a := ⟨.short h, by have := List.count_le_length (a := 10) (l := a); omega⟩
theorem RB.join {A B : Nat} : ∀ {rows : List (List Nat)}, (∀ r ∈ rows, RB A B r) → RB A B (TL.joinL [10] rows)
  | [], _ => fun s hs _ => by
    have := hs.length_le
    have : s = [] := by
      cases s with
      | nil => rfl
      | cons a s => simp [TL.joinL] at this
    rw [this]; simp
  | [r], h => by simpa [TL.joinL] using h r (by simp)
  | r :: q :: rows, h => by
    have ih := RB.join (rows := q :: rows) fun x hx => h x (by simp [hx])
    have := (h r (by simp)).sep ih
    simpa [TL.joinL] using this
theorem count_join {c : Nat} {S : List Nat} (hS : S.count c ≤ 1) : ∀ {rows : List (List Nat)}, (∀ r ∈ rows, c ∉ r) → (TL.joinL S rows).count c ≤ rows.length - 1
  | [], _ => by simp [TL.joinL]
  | [r], h => by simp [TL.joinL, List.count_eq_zero_of_not_mem (h r (by simp))]
  | r :: q :: rows, h => by
    have ih := count_join hS (rows := q :: rows) fun x hx => h x (by simp [hx])
    have := List.count_eq_zero_of_not_mem (h r (by simp))
    simp only [TL.joinL, List.count_append, List.length_cons] at ih ⊢
    omega
theorem Ft.join {A B C : Nat} {rows : List (List Nat)} (h : ∀ r ∈ rows, RB A B r ∧ 10 ∉ r) (hC : rows.length ≤ C) (h1 : 1 ≤ C) : Ft A B C (TL.joinL [10] rows) := ⟨.join fun r hr => (h r hr).1, by
  have := count_join (c := 10) (S := [10]) (by simp) fun r hr => (h r hr).2
  omega⟩
/-! ### the parts of a text -/
theorem spl_mem {c : Nat} : ∀ (l acc : List Nat), c ∉ acc → ∀ r ∈ TL.spl [c] 0 acc l, r <:+: acc ++ l ∧ c ∉ r
  | [], acc, h, r, hr => by rw [TL.spl_nil] at hr; simp at hr; subst hr; exact ⟨by simp, h⟩
  | a :: l, acc, h, r, hr => by
    by_cases e : a = c
    · subst e
      rw [TL.spl_hit (by simp [TL.pre])] at hr
      rcases List.mem_cons.mp hr with rfl | hr
      · exact ⟨(List.prefix_append _ _).isInfix, h⟩
      · obtain ⟨h1, h2⟩ := spl_mem l [] (by simp) r hr
        exact ⟨h1.trans ⟨acc ++ [a], [], by simp⟩, h2⟩
    · rw [TL.spl_miss (by simp [TL.pre, e])] at hr
      have := spl_mem l (acc ++ [a]) (by simp [h, Ne.symm e]) r hr
      rwa [List.append_assoc] at this
theorem joinL_cons {S r : List Nat} {ps : List (List Nat)} (h : ps ≠ []) : TL.joinL S (r :: ps) = r ++ (S ++ TL.joinL S ps) := by
  cases ps with
  | nil => exact absurd rfl h
  | cons q ps => simp [TL.joinL]
theorem join_spl {c : Nat} : ∀ (l acc : List Nat), TL.joinL [c] (TL.spl [c] 0 acc l) = acc ++ l
  | [], acc => by rw [TL.spl_nil]; simp [TL.joinL]
  | a :: l, acc => by
    by_cases e : a = c
    · subst e
      rw [TL.spl_hit (by simp [TL.pre])]
      have hn : TL.spl [a] ([a].length - 1) [] l ≠ [] := List.length_pos_iff.mp (by
        show 0 < (TL.spl [a] 0 [] l).length
        rw [spl_count]; omega)
      rw [joinL_cons hn, show TL.spl [a] ([a].length - 1) [] l = TL.spl [a] 0 [] l from rfl, join_spl l []]
      simp
    · rw [TL.spl_miss (by simp [TL.pre, e]), join_spl l, List.append_assoc]
      rfl
theorem Ft.len {A B C : Nat} {l : List Nat} (h : Ft A B C l) : l.length ≤ C * (A + 1) := by
  have e := join_spl (c := 10) l []
  rw [List.nil_append] at e
  rw [← e]
  have := len_joinL [10] (k := A) (ps := TL.spl [10] 0 [] l) fun p hp => by
    obtain ⟨h1, h2⟩ := spl_mem l [] (by simp) p hp
    exact (h.1 p h1 h2).1
  rw [spl_count] at this
  exact Nat.le_trans this (Nat.mul_le_mul_right _ h.2)
/-! ### texts -/
def FtS (A B C : Nat) (x : Str) : Prop := Ft A B C (TL.tl x)
theorem spl_nlS (x : Str) : (Txt.split x (Str.ofString "\n")).map TL.tl = TL.spl [10] 0 [] (TL.tl x) := by
  rw [TL.split_spl x (Str.ofString "\n") (by rw [tl_nl]; simp) (TL.kind_ok (by decide +kernel)), tl_nl]
theorem spl_gtS (x : Str) : (Txt.split x (Str.ofString ">")).map TL.tl = TL.spl [62] 0 [] (TL.tl x) := by
  rw [TL.split_spl x (Str.ofString ">") (by rw [tl_gt]; simp) (TL.kind_ok (by decide +kernel)), tl_gt]
theorem split_gt {x : Str} : (Txt.split x (Str.ofString ">")).length = (TL.tl x).count 62 + 1 := by
  have := congrArg List.length (spl_gtS x)
  rw [List.length_map, spl_count] at this
  exact this
theorem size_big {n : Nat} (h : n ≤ 5592405) : leS n := Nat.le_trans h (by decide +kernel)
theorem FtS.row {A B C : Nat} {x y : Str} (h : FtS A B C x) (hy : y ∈ Txt.split x (Str.ofString "\n")) : RB A B (TL.tl y) ∧ 10 ∉ TL.tl y := by
  have hm : TL.tl y ∈ TL.spl [10] 0 [] (TL.tl x) := by rw [← spl_nlS]; exact List.mem_map_of_mem hy
  obtain ⟨h1, h2⟩ := spl_mem (TL.tl x) [] (by simp) _ hm
  exact ⟨h.1.sub h1, h2⟩
theorem row_word {A B : Nat} {y : Str} (h : RB A B (TL.tl y)) (h10 : 10 ∉ TL.tl y) (lA : A + 2 ≤ 5592405) (lB : B + 1 ≤ 1000) : WordOk y := by
  have := h _ (List.infix_refl _) h10
  refine ⟨size_big (by rw [wI_len]; omega), ?_⟩
  rw [split_gt]
  omega
theorem FtS.ok {A B C : Nat} {x : Str} (h : FtS A B C x) (lA : A + 2 ≤ 5592405) (lB : B + 1 ≤ 1000) (lC : C ≤ 1000) (hl : C * (A + 1) + 2 ≤ 5592405) : TextOk x := by
  refine ⟨size_big (by rw [wI_len]; have := Ft.len h; omega), ?_, fun y hy => ?_⟩
  · rw [split_n]; have := h.2; omega
  · exact row_word (h.row hy).1 (h.row hy).2 lA lB
theorem tl_cut {x : Str} {lo hi : Option Int} : TL.tl (cutS x lo hi) <:+: TL.tl x := by
  have : TL.tl (cutS x lo hi) = ((TL.tl x).drop (HT.sIx x.length 0 lo)).take (HT.sIx x.length x.length hi - HT.sIx x.length 0 lo) := rfl
  rw [this]
  exact (List.take_prefix _ _).isInfix.trans (List.drop_suffix _ _).isInfix

end DL

noncomputable section
namespace DL
open PySem L2

/-! four texts refused -/
end DL

noncomputable section
namespace DL
open PySem L2

/-! bent texts: the plain facts -/
theorem FtS.app {A B C A' B' C' : Nat} {a b : Str} (h1 : FtS A B C a) (h2 : FtS A' B' C' b) : FtS (A + A') (B + B') (C + C') (a ++ b) := by
  unfold FtS at *
  rw [TL.tl_append]
  exact h1.app h2
theorem FtS.cut {A B C : Nat} {x : Str} {lo hi : Option Int} (h : FtS A B C x) : FtS A B C (cutS x lo hi) := Ft.sub h tl_cut
theorem app_len {a b : Str} : (a ++ b).length = a.length + b.length := by
  rw [wI_len, wI_len, wI_len, TL.tl_append, List.length_append]
theorem FtS.small {k : Nat} {x : Str} (h : x.length ≤ k) : FtS k k (k + 1) x := Ft.short (by rw [← wI_len]; exact h)
theorem FtS.le {A B C A' B' C' : Nat} {x : Str} (h : FtS A B C x) (hA : A ≤ A') (hB : B ≤ B') (hC : C ≤ C') : FtS A' B' C' x := Ft.le h hA hB hC
theorem FtS.len {A B C : Nat} {x : Str} (h : FtS A B C x) : x.length ≤ C * (A + 1) := by
  rw [wI_len]
  exact Ft.len h
structure RowS (A B : Nat) (y : Str) : Prop where
  l : y.length ≤ A
  c : (TL.tl y).count 62 ≤ B
  n : 10 ∉ TL.tl y
theorem RowS.rb {A B : Nat} {y : Str} (h : RowS A B y) : RB A B (TL.tl y) := fun s hs _ => ⟨Nat.le_trans hs.length_le (by rw [← wI_len]; exact h.l), Nat.le_trans (hs.sublist.count_le _) h.c⟩
theorem RowS.le {A B A' B' : Nat} {y : Str} (h : RowS A B y) (hA : A ≤ A') (hB : B ≤ B') : RowS A' B' y := ⟨Nat.le_trans h.l hA, Nat.le_trans h.c hB, h.n⟩
theorem RowS.word {A B : Nat} {y : Str} (h : RowS A B y) (lA : A + 2 ≤ 5592405) (lB : B + 1 ≤ 1000) : WordOk y := row_word h.rb h.n lA lB
theorem tl_mul {x : Str} {n : Nat} (hn : 1 ≤ n) : TL.tl (Txt.mul x (n : Int)) = (List.replicate n (TL.tl x)).flatten := by
  have fold : ∀ (k : Nat) (a : Array Nat), ((List.replicate k x.cps).foldl (· ++ ·) a).toList = a.toList ++ (List.replicate k (TL.tl x)).flatten := fun k => by
    induction k with
    | zero => intro a; simp
    | succ k ih =>
      intro a
      rw [List.replicate_succ, List.foldl_cons, ih, List.replicate_succ, List.flatten_cons, Array.toList_append, List.append_assoc]
  unfold Txt.mul
  rw [if_neg (by omega)]
  split
  · rename_i h
    rw [Bool.or_eq_true] at h
    rcases h with h | h
    · have : n = 1 := by have := (beq_iff_eq.mp h); omega
      subst this
      simp
    · have : TL.tl x = [] := List.length_eq_zero_iff.mp (by rw [← wI_len]; exact beq_iff_eq.mp h)
      rw [this]
      simp
  · show ((List.replicate ((n : Int)).toNat x.cps).foldl (· ++ ·) #[]).toList = _
    rw [fold]
    simp
theorem mulOk {x : Str} {n : Nat} (h : x.length * n ≤ 5592405) (hn : n ≤ 100) : inT x (n : Int) := by
  unfold inT MulOk
  refine ⟨by simp; omega, fun h1 _ => ?_, fun h1 _ => ?_⟩
  · have : (x.length : Int) ≤ (2 ^ 63 - 1) / (n : Int) := Int.le_ediv_of_mul_le (by omega) (by
      have : ((x.length * n : Nat) : Int) ≤ 5592405 := by omega
      rw [Int.natCast_mul] at this
      omega)
    omega
  · have : x.length * ((n : Int)).toNat ≤ 5592405 := by simpa using h
    exact decide_eq_false (by have : sizeLine ≥ 5592405 := by decide +kernel
                              omega)
end DL

noncomputable section
namespace DL
open PySem L2
def b_lists_by_v5_1 : DSt → Flow := fseq (fIfS (fB (fOp (lift2 gtO) (fVar 4) (fC (.int 0)))) (fseq (fIfS (fB (fOp (lift2 neO) (fSlice (fVar 0) (fPart (fVar 3)) (fPart (fOp (lift2 addO) (fVar 3) (fC (.int 1))))) (fLst (fCons (fC (.str "/")) fNil)))) (fRaiseA "NoText" (fVar 3)) fnext) (fAug 3 (fun a b => a + b) (fC (.int 1)))) fnext) (fseq (fDrop (fApp 2 (fUser F_numbers_by_v4 (fCons (fSlice (fVar 0) (fPart (fVar 3)) (fPart (fOp (lift2 addO) (fVar 3) (fVar 5)))) (fCons (fVar 3) fNil))))) (fseq (fIfS (fB (fOp (lift2 ltO) (fCall lenO (pCons (fOp (lift2 ixO) (fVar 2) (fUn (lift1 negO) (fC (.int 1)))) fNil)) (fVar 5))) (fRaiseA "NoText" (fCall lenO (pCons (fVar 0) fNil))) fnext) (fAug 3 (fun a b => a + b) (fVar 5))))
abbrev o_lists_by_v5_1 : List PyData → DSt → Flow := loopF (bTup 2 (bCons (bName 4) (bCons (bName 5) bNil))) b_lists_by_v5_1
def p_lists_by_v5 : DSt → Flow := fseq (fSet 2 (fLst fNil)) (fseq (fSet 3 (fC (.int 1))) (fseq (fFor (fEnumT (fCons (fVar 1) fNil)) (bTup 2 (bCons (bName 4) (bCons (bName 5) bNil))) b_lists_by_v5_1) (fseq (fIfS (fB (fOp (lift2 ltO) (fVar 3) (fCall lenO (pCons (fVar 0) fNil)))) (fRaiseA "NoText" (fVar 3)) fnext) (fRet (fVar 2)))))
def F_lists_by_v5 : List R → Pw → FRes := runF 6 2 p_lists_by_v5
def p_read_paper_v2 : DSt → Flow := fseq (fSet 1 (fSplit (fVar 0) (fC (.str " ")))) (fseq (fSet 2 (fOp (lift2 ixO) (fVar 1) (fC (.int 0)))) (fseq (fIfS (fB (fOp (lift2 eqO) (fVar 2) (fC (.str "tree")))) (fRet (fTup (fCons (fVar 2) (fCons (fUser F_ties_by_v8 (fCons (fSlice (fVar 1) (fPart (fC (.int 1))) fNoPart) fNil)) fNil)))) fnext) (fseq (fIfS (fB (fInK false ["line", "row", "gone", "order", "ring"] (fVar 2))) (fseq (fIfS (fB (fOp (lift2 eqO) (fCall lenO (pCons (fVar 1) fNil)) (fC (.int 1)))) (fRaiseA "NoText" (fC (.int 1))) fnext) (fRet (fTup (fCons (fVar 2) (fCons (fUser F_numbers_by_v4 (fCons (fSlice (fVar 1) (fPart (fC (.int 1))) fNoPart) (fCons (fC (.int 1)) fNil))) fNil))))) fnext) (fseq (fIfS (fB (fInK true ["three", "four", "apart", "cross"] (fVar 2))) (fRaiseA "NoText" (fC (.int 0))) fnext) (fseq (fSet 3 (fUser F_lists_by_v5 (fCons (fVar 1) (fCons (fGlIx [("three", [3, 3]), ("four", [2, 4]), ("apart", [3, 2, 2, 2]), ("cross", [4, 2, 2])] (fVar 2)) fNil)))) (fseq (fIfS (fB (fOp (lift2 eqO) (fCall lenO (pCons (fVar 3) fNil)) (fC (.int 2)))) (fRet (fTup (fCons (fVar 2) (fCons (fOp (lift2 ixO) (fVar 3) (fC (.int 0))) (fCons (fOp (lift2 ixO) (fVar 3) (fC (.int 1))) fNil))))) fnext) (fRet (fTup (fCons (fVar 2) (fCons (fOp (lift2 ixO) (fVar 3) (fC (.int 0))) (fCons (fSlice (fVar 3) (fPart (fC (.int 1))) fNoPart) fNil)))))))))))
def F_read_paper_v2 : List R → Pw → FRes := runF 4 1 p_read_paper_v2
/-! lists of numbers between strokes: read -/
def cutZ {α : Type} (l : List α) (lo hi : Option Int) : List α := (l.drop (HT.sIx l.length 0 lo)).take (HT.sIx l.length l.length hi - HT.sIx l.length 0 lo)
theorem cut_mapZ {α : Type} {f : α → PyData} {l : List α} {lo hi : Option Int} : cutD (l.map f) lo hi = (cutZ l lo hi).map f := by
  unfold cutD cutZ
  rw [List.length_map, List.map_take, List.map_drop]
theorem cut_range {W : List Str} {p q : Nat} (hp : p ≤ W.length) : cutD (W.map .str) (some (p : Int)) (some ((p : Int) + (q : Int))) = ((W.drop p).take q).map .str := by
  rw [cut_mapZ]
  unfold cutZ
  rw [show ((p : Int) + (q : Int)) = ((p + q : Nat) : Int) by simp, HT.sIx_nat, HT.sIx_nat]
  congr 1
  rw [show min p W.length = p by omega]
  by_cases h : p + q ≤ W.length
  · rw [show min (p + q) W.length - p = q by omega]
  · rw [List.take_of_length_le (by rw [List.length_drop]; omega), List.take_of_length_le (by rw [List.length_drop]; omega)]
def enI (p : Nat × Nat) : PyData := .tuple [.int (p.2 : Int), .int (p.1 : Int)]
theorem enum_nat {l : List Nat} : enumD (l.map fun n : Nat => PyData.int (n : Int)) = (l.zipIdx 0).map enI := by
  unfold enumD
  rw [List.zipIdx_map, List.map_map]
  rfl
theorem calm_strs {l : List Str} : calmA (l.map PyData.str) = true := by
  rw [calm_map]
  simp
theorem dep_strs {l : List Str} : PyData.depthAll (l.map PyData.str) = 0 := by
  induction l with
  | nil => rfl
  | cons a l ih => simp [ih]
theorem neO_strL {a b : List Str} : neO (.list (a.map .str)) (.list (b.map .str)) = some (.val (.bool (decide (¬ a = b)))) := by
  refine neO_calm (by simp [calm_strs]) (by simp [calm_strs]) ?_ (by simp [dep_strs])
  constructor
  · intro h
    have h := PyData.list.inj h
    exact (List.map_inj_right (f := PyData.str) (fun x y e => by cases e; rfl)).mp h
  · rintro rfl; rfl
theorem nums_len : ∀ {xs : List Str} {p : Nat} {l : List Int}, numsV xs p = .inl l → l.length = xs.length
  | [], p, l, h => by cases h; rfl
  | x :: xs, p, l, h => by
    rw [numsV] at h
    cases q : numV x with
    | none => rw [q] at h; cases h
    | some n =>
      rw [q] at h
      dsimp only at h
      cases q2 : numsV xs (p + 1) with
      | inr j => rw [q2] at h; cases h
      | inl l2 => rw [q2] at h; cases h; simp [nums_len q2]
theorem skip_at {W : List Str} {p p1 : Nat} {first : Bool} {r : List Str} (hp : p ≤ W.length) (hs : skipV first (W.drop p) p = some (r, p1)) : p1 ≤ W.length ∧ r = W.drop p1 := by
  unfold skipV at hs
  split at hs
  · cases hs; exact ⟨hp, rfl⟩
  · cases z : W.drop p with
    | nil => rw [z] at hs; cases hs
    | cons a t =>
      rw [z] at hs
      dsimp only at hs
      split at hs
      · cases hs
        have := congrArg List.length z
        rw [List.length_drop, List.length_cons] at this
        refine ⟨by omega, ?_⟩
        rw [← List.drop_drop, z]
        rfl
      · cases hs
theorem skip_take {ws : List Str} {p : Nat} : ws.take 1 = [strk] ↔ ∃ r, skipV false ws p = some (r, p + 1) := by
  cases ws with
  | nil => simp [skipV]
  | cons a t =>
    by_cases c : a = strk
    · simp [skipV, c]
    · simp [skipV, c]
theorem skip_one {ws : List Str} {p p1 : Nat} {r : List Str} (h : skipV false ws p = some (r, p1)) : p1 = p + 1 := by
  cases ws with
  | nil => simp [skipV] at h
  | cons a t =>
    by_cases c : a = strk
    · simp [skipV, c] at h; exact h.2.symm
    · simp [skipV, c] at h
theorem lists_body {W : List Str} {SZ : PyData} {w : Pw} {s k p : Nat} {f : List (List Int)} (hW : ∀ x ∈ W, Wd x) (lW : W.length ≤ 990) (hp : p ≤ W.length) (ls : s ≤ 990) (lf : f.length ≤ 1000) :
    match skipV (decide (k = 0)) (W.drop p) p with
    | none => ∃ s', s'.w = w ∧ b_lists_by_v5_1 ⟨[.val (.list (W.map .str)), .val SZ, .own (f.map llD), .val (.int ((p : Nat) : Int)), .val (.int ((k : Nat) : Int)), .val (.int ((s : Nat) : Int))], w⟩ = .err ⟨"NoText", some (.int (p : Int))⟩ s'
    | some (r, p1) => match numsV (r.take s) p1 with
      | .inr j => ∃ s', s'.w = w ∧ b_lists_by_v5_1 ⟨[.val (.list (W.map .str)), .val SZ, .own (f.map llD), .val (.int ((p : Nat) : Int)), .val (.int ((k : Nat) : Int)), .val (.int ((s : Nat) : Int))], w⟩ = .err ⟨"NoText", some (.int (j : Int))⟩ s'
      | .inl l => if r.length < s then ∃ s', s'.w = w ∧ b_lists_by_v5_1 ⟨[.val (.list (W.map .str)), .val SZ, .own (f.map llD), .val (.int ((p : Nat) : Int)), .val (.int ((k : Nat) : Int)), .val (.int ((s : Nat) : Int))], w⟩ = .err ⟨"NoText", some (.int (W.length : Int))⟩ s'
        else b_lists_by_v5_1 ⟨[.val (.list (W.map .str)), .val SZ, .own (f.map llD), .val (.int ((p : Nat) : Int)), .val (.int ((k : Nat) : Int)), .val (.int ((s : Nat) : Int))], w⟩ = .next ⟨[.val (.list (W.map .str)), .val SZ, .own ((f ++ [l]).map llD), .val (.int ((p1 + s : Nat) : Int)), .val (.int ((k : Nat) : Int)), .val (.int ((s : Nat) : Int))], w⟩ := by
  have c1 := cut_range (W := W) (p := p) (q := 1) hp
  have s1 : leS 1 := size_le (by omega)
  have lo : lenO [.list (W.map .str)] = some (.val (.int (W.length : Int))) := by
    show some (R.val (.int ((W.map PyData.str).length : Int))) = _
    rw [List.length_map]
  have ne := neO_strL (a := (W.drop p).take 1) (b := [strk])
  rw [show ([strk].map PyData.str) = [.str (Str.ofString "/")] from rfl] at ne
  -- behind the stroke
  have after : ∀ (p1 : Nat), p1 ≤ W.length → ∀ r, r = W.drop p1 → ∃ q2 : DSt → Flow, (b_lists_by_v5_1 = fseq (fIfS (fB (fOp (lift2 gtO) (fVar 4) (fC (.int 0)))) (fseq (fIfS (fB (fOp (lift2 neO) (fSlice (fVar 0) (fPart (fVar 3)) (fPart (fOp (lift2 addO) (fVar 3) (fC (.int 1))))) (fLst (fCons (fC (.str (Str.ofString "/"))) fNil)))) (fRaiseA "NoText" (fVar 3)) fnext) (fAug 3 (fun a b => a + b) (fC (.int 1)))) fnext) q2) ∧
      match numsV (r.take s) p1 with
      | .inr j => ∃ s', s'.w = w ∧ q2 ⟨[.val (.list (W.map .str)), .val SZ, .own (f.map llD), .val (.int ((p1 : Nat) : Int)), .val (.int ((k : Nat) : Int)), .val (.int ((s : Nat) : Int))], w⟩ = .err ⟨"NoText", some (.int (j : Int))⟩ s'
      | .inl l => if r.length < s then ∃ s', s'.w = w ∧ q2 ⟨[.val (.list (W.map .str)), .val SZ, .own (f.map llD), .val (.int ((p1 : Nat) : Int)), .val (.int ((k : Nat) : Int)), .val (.int ((s : Nat) : Int))], w⟩ = .err ⟨"NoText", some (.int (W.length : Int))⟩ s'
        else q2 ⟨[.val (.list (W.map .str)), .val SZ, .own (f.map llD), .val (.int ((p1 : Nat) : Int)), .val (.int ((k : Nat) : Int)), .val (.int ((s : Nat) : Int))], w⟩ = .next ⟨[.val (.list (W.map .str)), .val SZ, .own ((f ++ [l]).map llD), .val (.int ((p1 + s : Nat) : Int)), .val (.int ((k : Nat) : Int)), .val (.int ((s : Nat) : Int))], w⟩ := by
    rintro p1 hp1 r rfl
    refine ⟨_, rfl, ?_⟩
    have c2 := cut_range (W := W) (p := p1) (q := s) hp1
    have nm := numbers_any (xs := (W.drop p1).take s) (first := p1) (w := w) (fun x hx => hW x (List.mem_of_mem_drop (List.mem_of_mem_take hx))) (by rw [List.length_take]; omega)
    have lt : ltS (f.map llD).length := size_lt (by rw [List.length_map]; omega)
    cases q : numsV ((W.drop p1).take s) p1 with
    | inr j =>
      have e := nm.2 j q
      refine ⟨⟨[.val (.list (W.map .str)), .val SZ, .own (f.map llD), .val (.int ((p1 : Nat) : Int)), .val (.int ((k : Nat) : Int)), .val (.int ((s : Nat) : Int))], w⟩, rfl, ?_⟩
      obtain ⟨D, hD⟩ : ∃ D, W.map PyData.str = D := ⟨_, rfl⟩
      obtain ⟨E, hE⟩ : ∃ E, ((W.drop p1).take s).map PyData.str = E := ⟨_, rfl⟩
      obtain ⟨F, hF⟩ : ∃ F, f.map llD = F := ⟨_, rfl⟩
      rw [hD, hE] at c2
      rw [hE] at e
      rw [hD, hF]
      simp -implicitDefEqProofs [c2, e]
    | inl l =>
      have e := nm.1 l q
      have nl := nums_len q
      rw [List.length_take] at nl
      have la : ixO (.list ((f ++ [l]).map llD)) (.int (-1)) = some (.val (.list (l.map .int))) := by
        rw [List.map_append]
        show (atI (f.map llD ++ [llD l]) (-1)).map R.val = _
        rw [atI_m1z]; rfl
      have ll : lenO [.list (l.map .int)] = some (.val (.int (l.length : Int))) := by
        show some (R.val (.int ((l.map PyData.int).length : Int))) = _
        rw [List.length_map]
      dsimp only
      have eap : f.map llD ++ [.list (l.map .int)] = (f ++ [l]).map llD := by rw [List.map_append]; rfl
      by_cases c : (W.drop p1).length < s
      · rw [if_pos c]
        have c3 : (l.length : Int) < (s : Int) := by omega
        refine ⟨⟨[.val (.list (W.map .str)), .val SZ, .own ((f ++ [l]).map llD), .val (.int ((p1 : Nat) : Int)), .val (.int ((k : Nat) : Int)), .val (.int ((s : Nat) : Int))], w⟩, rfl, ?_⟩
        obtain ⟨D, hD⟩ : ∃ D, W.map PyData.str = D := ⟨_, rfl⟩
        obtain ⟨E, hE⟩ : ∃ E, ((W.drop p1).take s).map PyData.str = E := ⟨_, rfl⟩
        obtain ⟨F, hF⟩ : ∃ F, f.map llD = F := ⟨_, rfl⟩
        obtain ⟨F2, hF2⟩ : ∃ F, (f ++ [l]).map llD = F := ⟨_, rfl⟩
        obtain ⟨LI, hLI⟩ : ∃ F, l.map PyData.int = F := ⟨_, rfl⟩
        rw [hF, hF2, hLI] at eap
        rw [hF] at lt
        rw [hF2, hLI] at la
        rw [hLI] at ll e
        rw [hD] at lo
        rw [hD, hE] at c2
        rw [hE] at e
        rw [hD, hF, hF2]
        simp -implicitDefEqProofs [c2, e, lt, eap, la, ll, c3, lo, -x_ixL]
      · rw [if_neg c]
        have c3 : ¬ (l.length : Int) < (s : Int) := by omega
        obtain ⟨D, hD⟩ : ∃ D, W.map PyData.str = D := ⟨_, rfl⟩
        obtain ⟨E, hE⟩ : ∃ E, ((W.drop p1).take s).map PyData.str = E := ⟨_, rfl⟩
        obtain ⟨F, hF⟩ : ∃ F, f.map llD = F := ⟨_, rfl⟩
        obtain ⟨F2, hF2⟩ : ∃ F, (f ++ [l]).map llD = F := ⟨_, rfl⟩
        obtain ⟨LI, hLI⟩ : ∃ F, l.map PyData.int = F := ⟨_, rfl⟩
        rw [hF, hF2, hLI] at eap
        rw [hF] at lt
        rw [hF2, hLI] at la
        rw [hLI] at ll e
        rw [hD] at lo
        rw [hD, hE] at c2
        rw [hE] at e
        rw [hD, hF, hF2]
        simp -implicitDefEqProofs [c2, e, lt, eap, la, ll, c3, lo, -x_ixL]
  obtain ⟨D, hD⟩ : ∃ D, W.map PyData.str = D := ⟨_, rfl⟩
  obtain ⟨F, hF⟩ : ∃ F, f.map llD = F := ⟨_, rfl⟩
  by_cases k0 : k = 0
  · rw [decide_eq_true k0]
    obtain ⟨q2, eb, h2⟩ := after p hp _ rfl
    have hs : skipV true (W.drop p) p = some (W.drop p, p) := by simp [skipV]

    have run : b_lists_by_v5_1 ⟨[.val (.list (W.map .str)), .val SZ, .own (f.map llD), .val (.int ((p : Nat) : Int)), .val (.int ((k : Nat) : Int)), .val (.int ((s : Nat) : Int))], w⟩ = q2 ⟨[.val (.list (W.map .str)), .val SZ, .own (f.map llD), .val (.int ((p : Nat) : Int)), .val (.int ((k : Nat) : Int)), .val (.int ((s : Nat) : Int))], w⟩ := by
      rw [eb, hD, hF]
      simp -implicitDefEqProofs [k0]
    rw [hs, run]
    exact h2
  · rw [decide_eq_false k0]
    have kk : 0 < k := by omega
    obtain ⟨E, hE⟩ : ∃ E, ((W.drop p).take 1).map PyData.str = E := ⟨_, rfl⟩
    have c1' : cutD (W.map .str) (some (p : Int)) (some ((p : Int) + 1)) = ((W.drop p).take 1).map .str := c1
    cases q : skipV false (W.drop p) p with
    | none =>
      have nt : ¬ (W.drop p).take 1 = [strk] := fun z => by
        obtain ⟨r, e⟩ := (skip_take (p := p)).mp z
        rw [q] at e; cases e
      rw [decide_eq_true nt, hE] at ne
      rw [hE] at c1'
      refine ⟨⟨[.val (.list (W.map .str)), .val SZ, .own (f.map llD), .val (.int ((p : Nat) : Int)), .val (.int ((k : Nat) : Int)), .val (.int ((s : Nat) : Int))], w⟩, rfl, ?_⟩
      obtain ⟨q2, eb, _⟩ := after p hp _ rfl
      rw [hD] at c1'
      rw [eb, hD, hF]
      simp -implicitDefEqProofs [kk, c1', ne, s1]
    | some rp =>
      obtain ⟨r, p1⟩ := rp
      obtain ⟨hp1, hr⟩ := skip_at hp q
      have ep := skip_one q
      subst ep
      have nt : (W.drop p).take 1 = [strk] := (skip_take (p := p)).mpr ⟨r, q⟩
      rw [decide_eq_false (fun z => z nt), hE] at ne
      rw [hE] at c1'
      obtain ⟨q2, eb, h2⟩ := after (p + 1) hp1 r hr
      have run : b_lists_by_v5_1 ⟨[.val (.list (W.map .str)), .val SZ, .own (f.map llD), .val (.int ((p : Nat) : Int)), .val (.int ((k : Nat) : Int)), .val (.int ((s : Nat) : Int))], w⟩ = q2 ⟨[.val (.list (W.map .str)), .val SZ, .own (f.map llD), .val (.int ((p + 1 : Nat) : Int)), .val (.int ((k : Nat) : Int)), .val (.int ((s : Nat) : Int))], w⟩ := by
        rw [hD] at c1'
        rw [eb, hD, hF]
        simp -implicitDefEqProofs [kk, c1', ne, s1]
      rw [run]
      exact h2
theorem lists_loop {W : List Str} {SZ : PyData} {w : Pw} (hW : ∀ x ∈ W, Wd x) (lW : W.length ≤ 990) : ∀ (ss : List Nat) (k p : Nat) (f : List (List Int)) (v4 v5 : Sl), p ≤ W.length → (∀ s ∈ ss, s ≤ 990) → f.length + ss.length ≤ 1000 →
    (∀ g, listsV (decide (k = 0)) ss (W.drop p) p = .inl g → ∃ u4 u5, loopF (bTup 2 (bCons (bName 4) (bCons (bName 5) bNil))) b_lists_by_v5_1 ((ss.zipIdx k).map enI) ⟨[.val (.list (W.map .str)), .val SZ, .own (f.map llD), .val (.int ((p : Nat) : Int)), v4, v5], w⟩ = .next ⟨[.val (.list (W.map .str)), .val SZ, .own ((f ++ g).map llD), .val (.int ((W.length : Nat) : Int)), u4, u5], w⟩) ∧
    (∀ j, listsV (decide (k = 0)) ss (W.drop p) p = .inr j → (∃ s', s'.w = w ∧ loopF (bTup 2 (bCons (bName 4) (bCons (bName 5) bNil))) b_lists_by_v5_1 ((ss.zipIdx k).map enI) ⟨[.val (.list (W.map .str)), .val SZ, .own (f.map llD), .val (.int ((p : Nat) : Int)), v4, v5], w⟩ = .err ⟨"NoText", some (.int (j : Int))⟩ s') ∨
      (j < W.length ∧ ∃ f' u4 u5, loopF (bTup 2 (bCons (bName 4) (bCons (bName 5) bNil))) b_lists_by_v5_1 ((ss.zipIdx k).map enI) ⟨[.val (.list (W.map .str)), .val SZ, .own (f.map llD), .val (.int ((p : Nat) : Int)), v4, v5], w⟩ = .next ⟨[.val (.list (W.map .str)), .val SZ, .own f', .val (.int ((j : Nat) : Int)), u4, u5], w⟩))
  | [], k, p, f, v4, v5, hp, _, _ => by
    constructor
    · intro g h
      rw [listsV] at h
      split at h
      · rename_i z
        cases h
        have : W.length ≤ p := List.drop_eq_nil_iff.mp z
        have : p = W.length := by omega
        subst this
        rw [List.append_nil]
        exact ⟨v4, v5, rfl⟩
      · cases h
    · intro j h
      rw [listsV] at h
      split at h
      · cases h
      · rename_i z
        cases h
        exact .inr ⟨Nat.lt_of_not_le fun q => z (List.drop_eq_nil_iff.mpr q), _, v4, v5, rfl⟩
  | s :: ss, k, p, f, v4, v5, hp, hs, hl => by
    have ls := hs s (by simp)
    simp only [List.length_cons] at hl
    have hb := lists_body (SZ := SZ) (w := w) (k := k) (f := f) hW lW hp ls (by omega)
    have st : bTup 2 (bCons (bName 4) (bCons (bName 5) bNil)) (enI (s, k)) ⟨[.val (.list (W.map .str)), .val SZ, .own (f.map llD), .val (.int ((p : Nat) : Int)), v4, v5], w⟩ = some ⟨[.val (.list (W.map .str)), .val SZ, .own (f.map llD), .val (.int ((p : Nat) : Int)), .val (.int ((k : Nat) : Int)), .val (.int ((s : Nat) : Int))], w⟩ := rfl
    rw [List.zipIdx_cons, List.map_cons, loop_cons st]
    unfold listsV
    cases q : skipV (decide (k = 0)) (W.drop p) p with
    | none =>
      rw [q] at hb
      obtain ⟨s', hs', hb⟩ := hb
      rw [hb]
      refine ⟨fun g h => (by cases h), fun j h => ?_⟩
      cases h
      exact .inl ⟨s', hs', rfl⟩
    | some rp =>
      obtain ⟨r, p1⟩ := rp
      obtain ⟨hp1, hr⟩ := skip_at hp q
      rw [q] at hb
      dsimp only at hb ⊢
      cases q2 : numsV (r.take s) p1 with
      | inr j =>
        rw [q2] at hb
        obtain ⟨s', hs', hb⟩ := hb
        rw [hb]
        refine ⟨fun g h => (by cases h), fun j h => ?_⟩
        cases h
        exact .inl ⟨s', hs', rfl⟩
      | inl l =>
        rw [q2] at hb
        dsimp only at hb ⊢
        have lr : p1 + r.length = W.length := by rw [hr, List.length_drop]; omega
        by_cases c : r.length < s
        · rw [if_pos c] at hb
          rw [if_pos c]
          obtain ⟨s', hs', hb⟩ := hb
          rw [hb]
          refine ⟨fun g h => (by cases h), fun j h => ?_⟩
          cases h
          rw [lr]
          exact .inl ⟨s', hs', rfl⟩
        · rw [if_neg c] at hb
          rw [if_neg c, hb]
          dsimp only
          have ih := lists_loop (SZ := SZ) (w := w) hW lW ss (k + 1) (p1 + s) (f ++ [l]) (.val (.int ((k : Nat) : Int))) (.val (.int ((s : Nat) : Int))) (by omega) (fun z hz => hs z (by simp [hz])) (by simp; omega)
          have ed : r.drop s = W.drop (p1 + s) := by rw [hr, List.drop_drop]
          rw [decide_eq_false (by omega : ¬ k + 1 = 0)] at ih
          rw [ed]
          cases q3 : listsV false ss (W.drop (p1 + s)) (p1 + s) with
          | inl ls =>
            refine ⟨fun g h => ?_, fun j h => (by cases h)⟩
            cases h
            have := ih.1 ls q3
            rwa [List.append_assoc] at this
          | inr j =>
            refine ⟨fun g h => (by cases h), fun j h => ?_⟩
            cases h
            exact ih.2 _ q3
theorem lists_any {W : List Str} {ss : List Nat} {w : Pw} (hW : ∀ x ∈ W, Wd x) (lW : W.length ≤ 990) (h1 : 1 ≤ W.length) (hs : ∀ s ∈ ss, s ≤ 990) (hl : ss.length ≤ 900) :
    (∀ g, listsV true ss (W.drop 1) 1 = .inl g → F_lists_by_v5 [.val (.list (W.map .str)), .val (.tuple (ss.map fun n : Nat => PyData.int (n : Int)))] w = .ok (.new (g.map llD)) w) ∧
    (∀ j, listsV true ss (W.drop 1) 1 = .inr j → F_lists_by_v5 [.val (.list (W.map .str)), .val (.tuple (ss.map fun n : Nat => PyData.int (n : Int)))] w = .err ⟨"NoText", some (.int (j : Int))⟩ w) := by
  have lp := lists_loop (SZ := .tuple (ss.map fun n : Nat => PyData.int (n : Int))) (w := w) hW lW ss 0 1 [] .no .no h1 hs (by simp; omega)
  rw [decide_eq_true rfl] at lp
  have en := enum_nat (l := ss)
  have lo : lenO [.list (W.map .str)] = some (.val (.int (W.length : Int))) := by
    show some (R.val (.int ((W.map PyData.str).length : Int))) = _
    rw [List.length_map]
  obtain ⟨D, hD⟩ : ∃ D, W.map PyData.str = D := ⟨_, rfl⟩
  obtain ⟨T, hT⟩ : ∃ D, (ss.map fun n : Nat => PyData.int (n : Int)) = D := ⟨_, rfl⟩
  rw [hD, hT] at lp
  rw [hT] at en
  rw [hD] at lo
  rw [hD, hT]
  rw [List.map_nil] at lp
  have one : ((1 : Nat) : Int) = 1 := rfl
  rw [one] at lp
  refine ⟨fun g h => ?_, fun j h => ?_⟩
  · obtain ⟨u4, u5, o⟩ := lp.1 g h
    rw [List.nil_append] at o
    unfold F_lists_by_v5 p_lists_by_v5
    simp only [x_runF]
    simp -implicitDefEqProofs [en, o, lo]
  · rcases lp.2 j h with ⟨s', hs', o⟩ | ⟨hj, f', u4, u5, o⟩
    · unfold F_lists_by_v5 p_lists_by_v5
      simp only [x_runF]
      simp -implicitDefEqProofs [en, o, lo, hs']
    · have c : (j : Int) < (W.length : Int) := by omega
      unfold F_lists_by_v5 p_lists_by_v5
      simp only [x_runF]
      simp -implicitDefEqProofs [en, o, lo, c]

end DL

noncomputable section
namespace DL
open PySem L2

/-! a paper, read -/
def LS : List Str := ["line", "row", "gone", "order", "ring"]
def FN (w : Str) : List Nat := if w = Str.ofString "three" then [3, 3] else if w = Str.ofString "four" then [2, 4] else if w = Str.ofString "apart" then [3, 2, 2, 2] else if w = Str.ofString "cross" then [4, 2, 2] else []
def formP (w : Str) (g : List (List Int)) : PyData := if g.length = 2 then .tuple [.str w, llD (g.headD []), llD ((g.drop 1).headD [])] else .tuple [.str w, llD (g.headD []), .list ((g.drop 1).map llD)]
def paperV : List Str → Sum PyData Nat
  | [] => .inr 0
  | w :: r => if w = Str.ofString "tree" then (match tiesV r 1 with | .inl l => .inl (.tuple [.str w, .list (l.map ppT)]) | .inr q => .inr q)
    else if w ∈ LS then (if r = [] then .inr 1 else match numsV r 1 with | .inl l => .inl (.tuple [.str w, .list (l.map .int)]) | .inr q => .inr q)
    else if FN w = [] then .inr 0 else match listsV true (FN w) r 1 with | .inl g => .inl (formP w g) | .inr q => .inr q
theorem lists_len : ∀ {ss : List Nat} {first : Bool} {ws : List Str} {p : Nat} {g : List (List Int)}, listsV first ss ws p = .inl g → g.length = ss.length
  | [], first, ws, p, g, h => by
    rw [listsV] at h
    split at h
    · cases h; rfl
    · cases h
  | s :: ss, first, ws, p, g, h => by
    rw [listsV] at h
    cases q : skipV first ws p with
    | none => rw [q] at h; cases h
    | some rp =>
      obtain ⟨r, p1⟩ := rp
      rw [q] at h
      dsimp only at h
      cases q2 : numsV (r.take s) p1 with
      | inr j => rw [q2] at h; cases h
      | inl l =>
        rw [q2] at h
        dsimp only at h
        split at h
        · cases h
        · cases q3 : listsV false ss (r.drop s) (p1 + s) with
          | inr j => rw [q3] at h; cases h
          | inl ls => rw [q3] at h; cases h; simp [lists_len q3]
theorem FN_cases {w : Str} (h : FN w ≠ []) : (w = Str.ofString "three" ∧ FN w = [3, 3]) ∨ (w = Str.ofString "four" ∧ FN w = [2, 4]) ∨ (w = Str.ofString "apart" ∧ FN w = [3, 2, 2, 2]) ∨ (w = Str.ofString "cross" ∧ FN w = [4, 2, 2]) := by
  unfold FN at h ⊢
  split
  · exact .inl ⟨by assumption, rfl⟩
  · split
    · exact .inr (.inl ⟨by assumption, rfl⟩)
    · split
      · exact .inr (.inr (.inl ⟨by assumption, rfl⟩))
      · split
        · exact .inr (.inr (.inr ⟨by assumption, rfl⟩))
        · rename_i h1 h2 h3 h4
          exact absurd (by rw [if_neg h1, if_neg h2, if_neg h3, if_neg h4]) h
theorem FN_not {w : Str} (h : FN w = []) : ¬ w = Str.ofString "three" ∧ ¬ w = Str.ofString "four" ∧ ¬ w = Str.ofString "apart" ∧ ¬ w = Str.ofString "cross" := by
  refine ⟨?_, ?_, ?_, ?_⟩ <;> (rintro rfl; revert h; decide +kernel)
theorem spc : ((Str.ofString " ").length == 0) = false := by decide
theorem read_paper_any {x : Str} {ws : List Str} {w : Pw} (hx : leS (x.length + 2)) (hs : Txt.split x (Str.ofString " ") = ws) (hW : ∀ y ∈ ws, Wd y) (lW : ws.length ≤ 990) (h0 : ws ≠ []) :
    (∀ d, paperV ws = .inl d → F_read_paper_v2 [.val (.str x)] w = .ok (.val d) w) ∧ (∀ j, paperV ws = .inr j → F_read_paper_v2 [.val (.str x)] w = .err ⟨"NoText", some (.int (j : Int))⟩ w) := by
  cases ws with
  | nil => exact absurd rfl h0
  | cons w0 r =>
    simp only [List.length_cons] at lW
    have i0 : ixO (.list ((w0 :: r).map .str)) (.int 0) = some (.val (.str w0)) := by simp [ixO]
    have c1 : cutD ((w0 :: r).map .str) (some 1) none = r.map .str := by
      rw [cut_mapZ]
      unfold cutZ
      rw [show (some (1 : Int)) = some ((1 : Nat) : Int) from rfl, HT.sIx_nat, HT.sIx_none]
      simp
    have lo : lenO [.list ((w0 :: r).map .str)] = some (.val (.int ((r.length + 1 : Nat) : Int))) := by
      show some (R.val (.int (((w0 :: r).map PyData.str).length : Int))) = _
      rw [List.length_map, List.length_cons]
    have hr : ∀ y ∈ r, Wd y := fun y hy => hW y (by simp [hy])
    have l2 : leS 2 := size_le (by omega)
    have l3 : leS 3 := size_le (by omega)
    have tn := ties_any (w := w) hr (by omega)
    have nn := numbers_any (first := 1) (w := w) hr (by omega)
    have ll := lists_any (W := w0 :: r) (ss := FN w0) (w := w) hW (by simp; omega) (by simp) (fun s hs => by
      by_cases z : FN w0 = []
      · rw [z] at hs; cases hs
      · rcases FN_cases z with ⟨_, e⟩ | ⟨_, e⟩ | ⟨_, e⟩ | ⟨_, e⟩ <;> rw [e] at hs <;> simp at hs <;> omega) (by
      by_cases z : FN w0 = []
      · rw [z]; simp
      · rcases FN_cases z with ⟨_, e⟩ | ⟨_, e⟩ | ⟨_, e⟩ | ⟨_, e⟩ <;> rw [e] <;> simp)
    rw [List.drop_succ_cons, List.drop_zero] at ll
    obtain ⟨D, hD⟩ : ∃ D, (w0 :: r).map PyData.str = D := ⟨_, rfl⟩
    obtain ⟨RD, hRD⟩ : ∃ D, r.map PyData.str = D := ⟨_, rfl⟩
    rw [hD] at i0 c1 lo ll
    rw [hRD] at c1 tn nn
    have one : ((1 : Nat) : Int) = 1 := rfl
    rw [one] at nn
    have hsD : (Txt.split x (Str.ofString " ")).map PyData.str = D := by rw [hs, hD]
    unfold paperV
    dsimp only
    by_cases ht : w0 = Str.ofString "tree"
    · rw [if_pos ht]
      have eq : eqO (.str w0) (.str (Str.ofString "tree")) = some (.val (.bool true)) := by simp [ht]
      cases q : tiesV r 1 with
      | inl l =>
        have e := tn.1 l q
        refine ⟨fun d h => ?_, fun j h => (by cases h)⟩
        cases h
        unfold F_read_paper_v2 p_read_paper_v2
        simp only [x_runF]
        simp -implicitDefEqProofs [hx, spc, hsD, i0, c1, eq, e, l2, -x_ixL]
      | inr k =>
        have e := tn.2 k q
        refine ⟨fun d h => (by cases h), fun j h => ?_⟩
        cases h
        unfold F_read_paper_v2 p_read_paper_v2
        simp only [x_runF]
        simp -implicitDefEqProofs [hx, spc, hsD, i0, c1, eq, e, l2, -x_ixL]
    · rw [if_neg ht]
      by_cases hL : w0 ∈ LS
      · rw [if_pos hL]
        have hL' : w0 = Str.ofString "line" ∨ w0 = Str.ofString "row" ∨ w0 = Str.ofString "gone" ∨ w0 = Str.ofString "order" ∨ w0 = Str.ofString "ring" := by
          unfold LS at hL
          simpa using hL
        by_cases z : r = []
        · rw [if_pos z]
          refine ⟨fun d h => (by cases h), fun j h => ?_⟩
          cases h
          have lz : lenO [.list D] = some (.val (.int 1)) := by rw [lo, z]; rfl
          unfold F_read_paper_v2 p_read_paper_v2
          simp only [x_runF]
          simp -implicitDefEqProofs [hx, spc, hsD, i0, c1, ht, hL', lz, l2, -x_ixL]
        · rw [if_neg z]
          have rp : 0 < r.length := List.length_pos_iff.mpr z
          have nl : ¬ (r.length : Int) + 1 = 1 := by omega
          cases q : numsV r 1 with
          | inl l =>
            have e := nn.1 l q
            refine ⟨fun d h => ?_, fun j h => (by cases h)⟩
            cases h
            unfold F_read_paper_v2 p_read_paper_v2
            simp only [x_runF]
            simp -implicitDefEqProofs [hx, spc, hsD, i0, c1, ht, hL', lo, nl, e, l2, z, -x_ixL]
          | inr k =>
            have e := nn.2 k q
            refine ⟨fun d h => (by cases h), fun j h => ?_⟩
            cases h
            unfold F_read_paper_v2 p_read_paper_v2
            simp only [x_runF]
            simp -implicitDefEqProofs [hx, spc, hsD, i0, c1, ht, hL', lo, nl, e, l2, z, -x_ixL]
      · rw [if_neg hL]
        have hL' : ¬ w0 = Str.ofString "line" ∧ ¬ w0 = Str.ofString "row" ∧ ¬ w0 = Str.ofString "gone" ∧ ¬ w0 = Str.ofString "order" ∧ ¬ w0 = Str.ofString "ring" := by
          unfold LS at hL
          simpa using hL
        by_cases z : FN w0 = []
        · rw [if_pos z]
          obtain ⟨z1, z2, z3, z4⟩ := FN_not z
          refine ⟨fun d h => (by cases h), fun j h => ?_⟩
          cases h
          unfold F_read_paper_v2 p_read_paper_v2
          simp only [x_runF]
          simp -implicitDefEqProofs [hx, spc, hsD, i0, c1, ht, hL', z1, z2, z3, z4, -x_ixL]
        · rw [if_neg z]
          have hF : w0 = Str.ofString "three" ∨ w0 = Str.ofString "four" ∨ w0 = Str.ofString "apart" ∨ w0 = Str.ofString "cross" := by
            rcases FN_cases z with ⟨h, _⟩ | ⟨h, _⟩ | ⟨h, _⟩ | ⟨h, _⟩ <;> simp [h]
          have hlk : List.lookup w0 [(Str.ofString "three", [3, 3]), (Str.ofString "four", [2, 4]), (Str.ofString "apart", [3, 2, 2, 2]), (Str.ofString "cross", [4, 2, 2])] = some ((FN w0).map fun n : Nat => (n : Int)) := by
            rcases FN_cases z with ⟨rfl, e⟩ | ⟨rfl, e⟩ | ⟨rfl, e⟩ | ⟨rfl, e⟩ <;> rw [e] <;> decide +kernel
          have em : ((FN w0).map fun n : Nat => (n : Int)).map PyData.int = (FN w0).map fun n : Nat => PyData.int (n : Int) := by rw [List.map_map]; rfl
          have fl : (FN w0).length ≥ 2 := by rcases FN_cases z with ⟨_, e⟩ | ⟨_, e⟩ | ⟨_, e⟩ | ⟨_, e⟩ <;> rw [e] <;> simp
          obtain ⟨FD, hFD⟩ : ∃ D, ((FN w0).map fun n : Nat => PyData.int (n : Int)) = D := ⟨_, rfl⟩
          rw [hFD] at em ll
          obtain ⟨FI, hFI⟩ : ∃ D, ((FN w0).map fun n : Nat => (n : Int)) = D := ⟨_, rfl⟩
          rw [hFI] at em hlk
          cases q : listsV true (FN w0) r 1 with
          | inl g =>
            have e := ll.1 g q
            have gl := lists_len q
            refine ⟨fun d h => ?_, fun j h => (by cases h)⟩
            cases h
            have gi : ixO (.list (g.map llD)) (.int 0) = some (.val (llD (g.headD []))) := by
              cases g with
              | nil => simp at gl; omega
              | cons a t => simp [ixO]
            have gi1 : ixO (.list (g.map llD)) (.int 1) = some (.val (llD ((g.drop 1).headD []))) := by
              match g, gl with
              | [], gl => simp at gl; omega
              | [a], gl => simp at gl; omega
              | a :: b :: t, gl => simp [ixO]
            have gc : cutD (g.map llD) (some 1) none = (g.drop 1).map llD := by
              rw [cut_mapZ]
              unfold cutZ
              rw [show (some (1 : Int)) = some ((1 : Nat) : Int) from rfl, HT.sIx_nat, HT.sIx_none, show min 1 g.length = 1 by omega, List.take_of_length_le (by rw [List.length_drop]; omega)]
            have gn : lenO [.list (g.map llD)] = some (.val (.int (g.length : Int))) := by
              show some (R.val (.int ((g.map llD).length : Int))) = _
              rw [List.length_map]
            obtain ⟨GD, hGD⟩ : ∃ D, g.map llD = D := ⟨_, rfl⟩
            rw [hGD] at e gi gi1 gc gn
            unfold formP
            by_cases c2 : g.length = 2
            · have c3 : (g.length : Int) = 2 := by omega
              rw [if_pos c2]
              unfold F_read_paper_v2 p_read_paper_v2
              simp only [x_runF]
              simp -implicitDefEqProofs [hx, spc, hsD, i0, c1, ht, hL', hF, hlk, em, e, gi, gi1, gc, gn, c2, c3, l3, -x_ixL]
            · have c3 : ¬ (g.length : Int) = 2 := by omega
              rw [if_neg c2]
              unfold F_read_paper_v2 p_read_paper_v2
              simp only [x_runF]
              simp -implicitDefEqProofs [hx, spc, hsD, i0, c1, ht, hL', hF, hlk, em, e, gi, gi1, gc, gn, c2, c3, l3, -x_ixL]
          | inr k =>
            have e := ll.2 k q
            refine ⟨fun d h => (by cases h), fun j h => ?_⟩
            cases h
            unfold F_read_paper_v2 p_read_paper_v2
            simp only [x_runF]
            simp -implicitDefEqProofs [hx, spc, hsD, i0, c1, ht, hL', hF, hlk, em, e, l3, -x_ixL]

end DL

noncomputable section
namespace DL
open PySem L2
def p_law_shape : DSt → Flow := fseq (fIfS (fB (fOp (lift2 eqO) (fVar 0) (fC (.str "three")))) (fRet (fLst (fCons (fC (.int 3)) (fCons (fC (.int 3)) fNil)))) fnext) (fseq (fIfS (fB (fOp (lift2 eqO) (fVar 0) (fC (.str "four")))) (fRet (fLst (fCons (fC (.int 2)) (fCons (fC (.int 4)) fNil)))) fnext) (fseq (fIfS (fB (fOp (lift2 eqO) (fVar 0) (fC (.str "apart")))) (fRet (fLst (fCons (fC (.int 3)) (fCons (fC (.int 2)) (fCons (fC (.int 2)) (fCons (fC (.int 2)) fNil)))))) fnext) (fseq (fIfS (fB (fOp (lift2 eqO) (fVar 0) (fC (.str "cross")))) (fRet (fLst (fCons (fC (.int 4)) (fCons (fC (.int 2)) (fCons (fC (.int 2)) fNil))))) fnext) (fRet (fLst fNil)))))
def F_law_shape : List R → Pw → FRes := runF 1 1 p_law_shape
def b_law_marks_of_1 : DSt → Flow := fSet 1 (fOp (lift2 addO) (fOp (lift2 addO) (fVar 1) (fOp (lift2 mulO) (fLst (fCons (fC (.str "/")) fNil)) (fCall intO (pCons (fOp (lift2 neO) (fVar 1) (fLst fNil)) fNil)))) (fOp (lift2 mulO) (fLst (fCons (fC (.str "n")) fNil)) (fVar 2)))
abbrev o_law_marks_of_1 : List PyData → DSt → Flow := loopF (bName 2) b_law_marks_of_1
def p_law_marks_of : DSt → Flow := fseq (fSet 1 (fLst fNil)) (fseq (fFor (fLstI (fVar 0)) (bName 2) b_law_marks_of_1) (fRet (fVar 1)))
def F_law_marks_of : List R → Pw → FRes := runF 3 1 p_law_marks_of
def t_law_wrong_v7_1 : M Bool := fB (fIsN false (fUser F_law_figured_v2 (fCons (fVar 4) fNil)))
def e_law_wrong_v7_2 : M R := fOp (lift2 addO) (fC (.int 1)) (fVar 3)
abbrev l_law_wrong_v7_2 : M R := fLc (fEnum (fCons (fSlice (fVar 0) (fPart (fC (.int 1))) fNoPart) fNil)) (bTup 2 (bCons (bName 3) (bCons (bName 4) bNil))) (t_law_wrong_v7_1) (e_law_wrong_v7_2) [3, 4]
def t_law_wrong_v7_3 : M Bool := fB (fIsN false (fUser F_law_tie_v2 (fCons (fVar 4) fNil)))
def e_law_wrong_v7_4 : M R := fOp (lift2 addO) (fC (.int 1)) (fVar 3)
abbrev l_law_wrong_v7_4 : M R := fLc (fEnum (fCons (fSlice (fVar 0) (fPart (fC (.int 1))) fNoPart) fNil)) (bTup 2 (bCons (bName 3) (bCons (bName 4) bNil))) (t_law_wrong_v7_3) (e_law_wrong_v7_4) [3, 4]
def b_law_wrong_v7_5 : DSt → Flow := fIfS (fOr (fB (fOp (lift2 geO) (fVar 3) (fCall lenO (pCons (fVar 2) fNil)))) (fOr (fAnd (fB (fOp (lift2 eqO) (fOp (lift2 ixO) (fVar 2) (fVar 3)) (fC (.str "/")))) (fB (fOp (lift2 neO) (fVar 4) (fC (.str "/"))))) (fAnd (fB (fOp (lift2 eqO) (fOp (lift2 ixO) (fVar 2) (fVar 3)) (fC (.str "n")))) (fB (fIsN false (fUser F_law_figured_v2 (fCons (fVar 4) fNil))))))) (fRet (fOp (lift2 addO) (fC (.int 1)) (fVar 3))) fnext
abbrev o_law_wrong_v7_5 : List PyData → DSt → Flow := loopF (bTup 2 (bCons (bName 3) (bCons (bName 4) bNil))) b_law_wrong_v7_5
def p_law_wrong_v7 : DSt → Flow := fseq (fIfS (fB (fOp (lift2 inO) (fOp (lift2 ixO) (fVar 0) (fC (.int 0))) (fLst (fCons (fC (.str "line")) (fCons (fC (.str "row")) (fCons (fC (.str "gone")) (fCons (fC (.str "order")) (fCons (fC (.str "ring")) fNil)))))))) (fseq (fSet 1 (fLc (fEnum (fCons (fSlice (fVar 0) (fPart (fC (.int 1))) fNoPart) fNil)) (bTup 2 (bCons (bName 3) (bCons (bName 4) bNil))) (t_law_wrong_v7_1) (e_law_wrong_v7_2) [3, 4])) (fRet (fOp (lift2 ixO) (fOp (lift2 addO) (fOp (lift2 addO) (fOp (lift2 mulO) (fLst (fCons (fC (.int 1)) fNil)) (fCall intO (pCons (fOp (lift2 eqO) (fCall lenO (pCons (fVar 0) fNil)) (fC (.int 1))) fNil))) (fVar 1)) (fLst (fCons (fC .none) fNil))) (fC (.int 0))))) fnext) (fseq (fIfS (fB (fOp (lift2 eqO) (fOp (lift2 ixO) (fVar 0) (fC (.int 0))) (fC (.str "tree")))) (fRet (fOp (lift2 ixO) (fOp (lift2 addO) (fLc (fEnum (fCons (fSlice (fVar 0) (fPart (fC (.int 1))) fNoPart) fNil)) (bTup 2 (bCons (bName 3) (bCons (bName 4) bNil))) (t_law_wrong_v7_3) (e_law_wrong_v7_4) [3, 4]) (fLst (fCons (fC .none) fNil))) (fC (.int 0)))) fnext) (fseq (fSet 2 (fUser F_law_marks_of (fCons (fUser F_law_shape (fCons (fOp (lift2 ixO) (fVar 0) (fC (.int 0))) fNil)) fNil))) (fseq (fIfS (fB (fOp (lift2 eqO) (fVar 2) (fLst fNil))) (fRet (fC (.int 0))) fnext) (fseq (fFor (fEnum (fCons (fSlice (fVar 0) (fPart (fC (.int 1))) fNoPart) fNil)) (bTup 2 (bCons (bName 3) (bCons (bName 4) bNil))) b_law_wrong_v7_5) (fseq (fIfS (fB (fOp (lift2 leO) (fCall lenO (pCons (fVar 0) fNil)) (fCall lenO (pCons (fVar 2) fNil)))) (fRet (fCall lenO (pCons (fVar 0) fNil))) fnext) (fRet (fC .none)))))))
def F_law_wrong_v7 : List R → Pw → FRes := runF 5 1 p_law_wrong_v7
/-! the law's own look: which word is wrong -/
def mkD (b : Bool) : PyData := .str (if b then strk else Str.ofString "n")
def natD (n : Nat) : PyData := .int (n : Int)
theorem shape_any {x : Str} {w : Pw} : F_law_shape [.val (.str x)] w = .ok (.new ((FN x).map natD)) w := by
  have l1 : leS 0 := size_le (by omega)
  have l2 : leS 2 := size_le (by omega)
  have l3 : leS 3 := size_le (by omega)
  have l4 : leS 4 := size_le (by omega)
  unfold FN
  by_cases h1 : x = Str.ofString "three"
  · rw [if_pos h1]
    unfold F_law_shape p_law_shape
    simp only [x_runF]
    simp -implicitDefEqProofs [h1, l2, natD]
  · rw [if_neg h1]
    by_cases h2 : x = Str.ofString "four"
    · rw [if_pos h2]
      have n1 : ¬ Str.ofString "four" = Str.ofString "three" := by decide +kernel
      unfold F_law_shape p_law_shape
      simp only [x_runF]
      simp -implicitDefEqProofs [h2, l2, natD, n1]
    · rw [if_neg h2]
      by_cases h3 : x = Str.ofString "apart"
      · rw [if_pos h3]
        have n1 : ¬ Str.ofString "apart" = Str.ofString "three" := by decide +kernel
        have n2 : ¬ Str.ofString "apart" = Str.ofString "four" := by decide +kernel
        unfold F_law_shape p_law_shape
        simp only [x_runF]
        simp -implicitDefEqProofs [h3, l4, natD, n1, n2]
      · rw [if_neg h3]
        by_cases h4 : x = Str.ofString "cross"
        · rw [if_pos h4]
          have n1 : ¬ Str.ofString "cross" = Str.ofString "three" := by decide +kernel
          have n2 : ¬ Str.ofString "cross" = Str.ofString "four" := by decide +kernel
          have n3 : ¬ Str.ofString "cross" = Str.ofString "apart" := by decide +kernel
          unfold F_law_shape p_law_shape
          simp only [x_runF]
          simp -implicitDefEqProofs [h4, l3, natD, n1, n2, n3]
        · rw [if_neg h4]
          unfold F_law_shape p_law_shape
          simp only [x_runF]
          simp -implicitDefEqProofs [h1, h2, h3, h4, l1, natD]
theorem marks_loop {S : List PyData} {w : Pw} : ∀ (ss : List Nat) (f : List Bool) (v2 : Sl), (∀ s ∈ ss, 0 < s) → f.length + (marksM false ss).length ≤ 900 →
    ∃ u2, loopF (bName 2) b_law_marks_of_1 (ss.map natD) ⟨[.val (.list S), .own (f.map mkD), v2], w⟩ = .next ⟨[.val (.list S), .own ((f ++ marksM (decide (f = [])) ss).map mkD), u2], w⟩
  | [], f, v2, _, _ => ⟨v2, by simp [marksM, loopF]⟩
  | s :: ss, f, v2, h, hl => by
    have hs := h s (by simp)
    have st : bName 2 (natD s) ⟨[.val (.list S), .own (f.map mkD), v2], w⟩ = some ⟨[.val (.list S), .own (f.map mkD), .val (.int ((s : Nat) : Int))], w⟩ := rfl
    have lm : (marksM false (s :: ss)).length = 1 + s + (marksM false ss).length := by simp [marksM]; omega
    rw [lm] at hl
    obtain ⟨f', hf'⟩ : ∃ f', f ++ ((if decide (f = []) = true then [] else [true]) ++ List.replicate s false) = f' := ⟨_, rfl⟩
    have lf' : f'.length ≤ f.length + (1 + s) := by
      rw [← hf']
      split <;> simp <;> omega
    have ne : f' ≠ [] := fun z => by
      have := congrArg List.length (hf'.trans z)
      simp at this
      omega
    obtain ⟨u2, ih⟩ := marks_loop (S := S) (w := w) ss f' (.val (.int ((s : Nat) : Int))) (fun z hz => h z (by simp [hz])) (by omega)
    rw [decide_eq_false ne] at ih
    have ef : (f ++ marksM (decide (f = [])) (s :: ss)) = f' ++ marksM false ss := by
      rw [← hf', marksM]
      simp [List.append_assoc]
    rw [List.map_cons, loop_cons st, ef]
    have hb : b_law_marks_of_1 ⟨[.val (.list S), .own (f.map mkD), .val (.int ((s : Nat) : Int))], w⟩ = .next ⟨[.val (.list S), .own (f'.map mkD), .val (.int ((s : Nat) : Int))], w⟩ := by
      have s1 : leS 1 := size_le (by omega)
      have s0 : leS 0 := size_le (by omega)
      have ss' : leS s := size_le (by omega)
      have w0 : inW 0 := inW_of (by omega) (by omega)
      have w1 : inW 1 := inW_of (by omega) (by omega)
      have ws : inW (s : Int) := inW_of (by omega) (by omega)
      by_cases hf : f = []
      · subst hf
        have a1 : leS (0 + s) := size_le (by omega)
        rw [← hf']
        unfold b_law_marks_of_1
        simp -implicitDefEqProofs [s1, s0, ss', w0, ws, a1, mkD]
      · have nf : ¬ f.map mkD = [] := fun z => hf (List.map_eq_nil_iff.mp z)
        have a1 : leS ((f.map mkD).length + 1) := size_le (by rw [List.length_map]; omega)
        have a2 : leS ((f.map mkD).length + 1 + s) := size_le (by rw [List.length_map]; omega)
        have el : f'.map mkD = f.map mkD ++ (.str (Str.ofString "/") :: List.replicate s (.str (Str.ofString "n"))) := by
          rw [← hf', decide_eq_false hf]
          simp [mkD, strk]
        obtain ⟨F, hF⟩ : ∃ F, f.map mkD = F := ⟨_, rfl⟩
        obtain ⟨F2, hF2⟩ : ∃ F, f'.map mkD = F := ⟨_, rfl⟩
        rw [hF] at nf a1 a2 el ⊢
        rw [hF2] at el ⊢
        unfold b_law_marks_of_1
        simp -implicitDefEqProofs [s1, s0, ss', w1, ws, a1, a2, nf, el]
    rw [hb]
    exact ⟨u2, ih⟩

end DL

noncomputable section
namespace DL
open PySem L2

/-! the law's own look: which word is wrong (on) -/
def MK (x : Str) : List Bool := marksM true (FN x)
theorem MK_len {x : Str} : (MK x).length ≤ 20 := by
  unfold MK
  by_cases z : FN x = []
  · rw [z]; simp [marksM]
  · rcases FN_cases z with ⟨_, e⟩ | ⟨_, e⟩ | ⟨_, e⟩ | ⟨_, e⟩ <;> rw [e] <;> simp [marksM]
theorem marks_any {x : Str} {w : Pw} : F_law_marks_of [.val (.list ((FN x).map natD))] w = .ok (.new ((MK x).map mkD)) w := by
  have hp : ∀ s ∈ FN x, 0 < s := fun s hs => by
    by_cases z : FN x = []
    · rw [z] at hs; cases hs
    · rcases FN_cases z with ⟨_, e⟩ | ⟨_, e⟩ | ⟨_, e⟩ | ⟨_, e⟩ <;> rw [e] at hs <;> simp at hs <;> omega
  have hl : (marksM false (FN x)).length ≤ 900 := by
    by_cases z : FN x = []
    · rw [z]; simp [marksM]
    · rcases FN_cases z with ⟨_, e⟩ | ⟨_, e⟩ | ⟨_, e⟩ | ⟨_, e⟩ <;> rw [e] <;> simp [marksM]
  obtain ⟨u2, e⟩ := marks_loop (S := (FN x).map natD) (w := w) (FN x) [] .no hp (by simpa using hl)
  rw [decide_eq_true rfl, List.nil_append, List.map_nil] at e
  change loopF _ _ _ _ = Flow.next ⟨[.val (.list ((FN x).map natD)), .own ((MK x).map mkD), u2], w⟩ at e
  obtain ⟨D, hD⟩ : ∃ D, (FN x).map natD = D := ⟨_, rfl⟩
  obtain ⟨M, hM⟩ : ∃ D, (MK x).map mkD = D := ⟨_, rfl⟩
  rw [hD, hM] at e
  rw [hD, hM]
  unfold F_law_marks_of p_law_marks_of
  simp only [x_runF]
  simp -implicitDefEqProofs [e]
def optN : Option Nat → PyData
  | none => .none
  | some n => .int (n : Int)
def wrongV (ws : List Str) : Option Nat := match paperV ws with
  | .inl _ => none
  | .inr q => some q
def badN {α : Type} (v : Str → Option α) (r : List Str) (k : Nat) : List Nat := ((r.zipIdx k).filter fun p => (v p.1).isNone).map fun p => 1 + p.2
theorem bad_nums : ∀ (r : List Str) (k : Nat), (badN numV r k).head? = match numsV r (1 + k) with | .inl _ => none | .inr q => some q
  | [], k => rfl
  | y :: r, k => by
    have ih := bad_nums r (k + 1)
    rw [show 1 + (k + 1) = 1 + k + 1 by omega] at ih
    unfold badN at ih ⊢
    rw [List.zipIdx_cons, numsV]
    cases q : numV y with
    | none => simp [q]
    | some n =>
      rw [List.filter_cons_of_neg (by simp [q]), ih]
      cases numsV r (1 + k + 1) <;> rfl
theorem bad_ties : ∀ (r : List Str) (k : Nat), (badN tieV r k).head? = match tiesV r (1 + k) with | .inl _ => none | .inr q => some q
  | [], k => rfl
  | y :: r, k => by
    have ih := bad_ties r (k + 1)
    rw [show 1 + (k + 1) = 1 + k + 1 by omega] at ih
    unfold badN at ih ⊢
    rw [List.zipIdx_cons, tiesV]
    cases q : tieV y with
    | none => simp [q]
    | some n =>
      rw [List.filter_cons_of_neg (by simp [q]), ih]
      cases tiesV r (1 + k + 1) <;> rfl
theorem bad_len {α : Type} {v : Str → Option α} {r : List Str} {k : Nat} : (badN v r k).length ≤ r.length := by
  unfold badN
  rw [List.length_map]
  exact Nat.le_trans (List.length_filter_le _ _) (by simp)
theorem wrong_loop {WD : List PyData} {v1 : Sl} {w : Pw} {M : List Bool} (lM : M.length ≤ 20) : ∀ (r : List Str) (k : Nat) (v3 v4 : Sl), (∀ y ∈ r, Wd y) → k ≤ M.length →
    (∃ s' q, s'.w = w ∧ loopF (bTup 2 (bCons (bName 3) (bCons (bName 4) bNil))) b_law_wrong_v7_5 ((r.zipIdx k).map enF) ⟨[.val (.list WD), v1, .own (M.map mkD), v3, v4], w⟩ = .ret (.val (.int ((q : Nat) : Int))) s' ∧ checkM (M.drop k) r (1 + k) = some q) ∨
    (∃ u3 u4, loopF (bTup 2 (bCons (bName 3) (bCons (bName 4) bNil))) b_law_wrong_v7_5 ((r.zipIdx k).map enF) ⟨[.val (.list WD), v1, .own (M.map mkD), v3, v4], w⟩ = .next ⟨[.val (.list WD), v1, .own (M.map mkD), u3, u4], w⟩ ∧ checkM (M.drop k) r (1 + k) = if k + r.length < M.length then some (1 + k + r.length) else none)
  | [], k, v3, v4, _, hk => by
    refine .inr ⟨v3, v4, rfl, ?_⟩
    rw [check_nil]
    by_cases c : k < M.length
    · rw [if_neg (fun z => by have := List.drop_eq_nil_iff.mp z; omega), if_pos (by simpa using c)]
      simp
    · rw [if_pos (List.drop_eq_nil_iff.mpr (by omega)), if_neg (by simpa using c)]
  | y :: r, k, v3, v4, hr, hk => by
    have hy := hr y (by simp)
    have e := figured_any (w := w) hy.le
    have st : bTup 2 (bCons (bName 3) (bCons (bName 4) bNil)) (enF (y, k)) ⟨[.val (.list WD), v1, .own (M.map mkD), v3, v4], w⟩ = some ⟨[.val (.list WD), v1, .own (M.map mkD), .val (.int ((k : Nat) : Int)), .val (.str y)], w⟩ := rfl
    have lo : lenO [.list (M.map mkD)] = some (.val (.int (M.length : Int))) := by
      show some (R.val (.int ((M.map mkD).length : Int))) = _
      rw [List.length_map]
    rw [List.zipIdx_cons, List.map_cons, loop_cons st]
    have ec : (1 : Int) + (k : Int) = ((1 + k : Nat) : Int) := by omega
    by_cases c : k < M.length
    · have nc : ¬ (M.length : Int) ≤ (k : Int) := by omega
      obtain ⟨m, hm⟩ : ∃ m, M[k] = m := ⟨_, rfl⟩
      have dr : M.drop k = m :: M.drop (k + 1) := by rw [List.drop_eq_getElem_cons c, hm]
      have ix : ixO (.list (M.map mkD)) (.int (k : Int)) = some (.val (mkD m)) := by
        have : (M.map mkD)[k]? = some (mkD m) := by rw [List.getElem?_map, List.getElem?_eq_getElem c, hm]; rfl
        show (atI (M.map mkD) (k : Int)).map R.val = _
        rw [atI_nat, this]; rfl
      have nn : ¬ Str.ofString "n" = Str.ofString "/" := by decide +kernel
      have nn2 : ¬ Str.ofString "/" = Str.ofString "n" := by decide +kernel
      obtain ⟨MD, hMD⟩ : ∃ MD, M.map mkD = MD := ⟨_, rfl⟩
      by_cases ok : okM m y = true
      · have hb : b_law_wrong_v7_5 ⟨[.val (.list WD), v1, .own (M.map mkD), .val (.int ((k : Nat) : Int)), .val (.str y)], w⟩ = .next ⟨[.val (.list WD), v1, .own (M.map mkD), .val (.int ((k : Nat) : Int)), .val (.str y)], w⟩ := by
          rw [hMD] at lo ix ⊢
          unfold b_law_wrong_v7_5
          cases m with
          | true =>
            have hy2 : y = Str.ofString "/" := of_decide_eq_true (show decide (y = strk) = true from ok)
            have i2 : mkD true = .str (Str.ofString "/") := rfl
            rw [i2] at ix
            simp -implicitDefEqProofs [lo, nc, ix, hy2, nn, nn2, -x_ixL]
          | false =>
            have hs : (numV y).isSome = true := by simpa [okM] using ok
            obtain ⟨n, hn⟩ := Option.isSome_iff_exists.mp hs
            rw [hn] at e
            have i2 : mkD false = .str (Str.ofString "n") := rfl
            rw [i2] at ix
            simp -implicitDefEqProofs [lo, nc, ix, e, nn, nn2, optI, -x_ixL]
        rw [hb]
        dsimp only
        have ih := wrong_loop (WD := WD) (v1 := v1) (w := w) lM r (k + 1) (.val (.int ((k : Nat) : Int))) (.val (.str y)) (fun z hz => hr z (by simp [hz])) (by omega)
        rw [dr, checkM, if_pos ok, show 1 + k + 1 = 1 + (k + 1) by omega, List.length_cons, show k + (r.length + 1) = k + 1 + r.length by omega, show 1 + k + (r.length + 1) = 1 + (k + 1) + r.length by omega]
        exact ih
      · have hb : b_law_wrong_v7_5 ⟨[.val (.list WD), v1, .own (M.map mkD), .val (.int ((k : Nat) : Int)), .val (.str y)], w⟩ = .ret (.val (.int (((1 + k : Nat)) : Int))) ⟨[.val (.list WD), v1, .own (M.map mkD), .val (.int ((k : Nat) : Int)), .val (.str y)], w⟩ := by
          rw [hMD] at lo ix ⊢
          rw [← ec]
          unfold b_law_wrong_v7_5
          cases m with
          | true =>
            have hy2 : ¬ y = Str.ofString "/" := fun z => ok (show decide (y = strk) = true from decide_eq_true z)
            have i2 : mkD true = .str (Str.ofString "/") := rfl
            rw [i2] at ix
            simp -implicitDefEqProofs [lo, nc, ix, hy2, nn, nn2, -x_ixL]
          | false =>
            have hs : numV y = none := by simpa [okM] using ok
            rw [hs] at e
            have i2 : mkD false = .str (Str.ofString "n") := rfl
            rw [i2] at ix
            simp -implicitDefEqProofs [lo, nc, ix, e, nn, nn2, optI, -x_ixL]
        rw [hb]
        refine .inl ⟨_, 1 + k, ?_, rfl, ?_⟩
        · rfl
        · rw [dr, checkM, if_neg ok]
    · have nc : (M.length : Int) ≤ (k : Int) := by omega
      obtain ⟨MD, hMD⟩ : ∃ MD, M.map mkD = MD := ⟨_, rfl⟩
      have hb : b_law_wrong_v7_5 ⟨[.val (.list WD), v1, .own (M.map mkD), .val (.int ((k : Nat) : Int)), .val (.str y)], w⟩ = .ret (.val (.int (((1 + k : Nat)) : Int))) ⟨[.val (.list WD), v1, .own (M.map mkD), .val (.int ((k : Nat) : Int)), .val (.str y)], w⟩ := by
        rw [hMD] at lo ⊢
        rw [← ec]
        unfold b_law_wrong_v7_5
        simp -implicitDefEqProofs [lo, nc]
      rw [hb]
      refine .inl ⟨_, 1 + k, ?_, rfl, ?_⟩
      · rfl
      · rw [List.drop_eq_nil_iff.mpr (by omega), checkM]

end DL

noncomputable section
namespace DL
open PySem L2

/-! the law's own look: which word is wrong (whole) -/
theorem head_of {l : List Nat} : ixO (.list (l.map natD ++ [.none])) (.int 0) = some (.val (optN l.head?)) := by
  cases l <;> simp [ixO, natD, optN]
theorem in_strs {x : Str} {ks : List Str} : inO (.str x) (.list (ks.map .str)) = some (.val (.bool (decide (x ∈ ks)))) := by
  unfold inO
  show (if min (PyData.depthAll (ks.map PyData.str)) (PyData.depth (.str x)) ≤ 60 then some (R.val (.bool ((ks.map PyData.str).any fun z => PyData.eqv z (.str x)))) else none) = _
  rw [if_pos (by rw [dep_strs]; omega)]
  congr 3
  rw [List.any_map]
  induction ks with
  | nil => rfl
  | cons k ks ih =>
    rw [List.any_cons, ih]
    have : (((fun z => PyData.eqv z (PyData.str x)) ∘ PyData.str) k) = decide (k = x) := by
      show PyData.eqv (.str k) (.str x) = _
      exact Bool.eq_iff_iff.mpr (by simp [PyData.eqv])
    rw [this]
    by_cases h : k = x
    · subst h; simp
    · have h' : ¬ x = k := fun e => h e.symm
      simp [h, h']
theorem wrong_any {w0 : Str} {r : List Str} {w : Pw} (hW : ∀ y ∈ w0 :: r, Wd y) (lW : r.length ≤ 980) : F_law_wrong_v7 [.val (.list ((w0 :: r).map .str))] w = .ok (.val (optN (wrongV (w0 :: r)))) w := by
  have i0 : ixO (.list ((w0 :: r).map .str)) (.int 0) = some (.val (.str w0)) := by simp [ixO]
  have c1 : cutD ((w0 :: r).map .str) (some 1) none = r.map .str := by
    rw [cut_mapZ]
    unfold cutZ
    rw [show (some (1 : Int)) = some ((1 : Nat) : Int) from rfl, HT.sIx_nat, HT.sIx_none]
    simp
  have lo : lenO [.list ((w0 :: r).map .str)] = some (.val (.int ((r.length : Int) + 1))) := by
    show some (R.val (.int (((w0 :: r).map PyData.str).length : Int))) = _
    rw [List.length_map, List.length_cons]
    rfl
  have hr : ∀ y ∈ r, Wd y := fun y hy => hW y (by simp [hy])
  have en := enum_str (l := r)
  have lz : (r.zipIdx 0).length = r.length := by simp
  have s0 : leS 0 := size_le (by omega)
  have s1 : leS 1 := size_le (by omega)
  have s5 : leS 5 := size_le (by omega)
  have w0' : inW 0 := inW_of (by omega) (by omega)
  have w1' : inW 1 := inW_of (by omega) (by omega)
  obtain ⟨D, hD⟩ : ∃ D, (w0 :: r).map PyData.str = D := ⟨_, rfl⟩
  rw [hD] at i0 c1 lo
  rw [hD]
  have e2 : l_law_wrong_v7_2 ⟨[.val (.list D), .no, .no, .no, .no], w⟩ = .ok (.new ((badN numV r 0).map natD)) ⟨[.val (.list D), .no, .no, .no, .no], w⟩ := by
    unfold badN
    rw [List.map_map]
    refine lc_gen (fun p : Str × Nat => ⟨[.val (.list D), .no, .no, .val (.int ((p.2 : Nat) : Int)), .val (.str p.1)], w⟩) _ _ (f := enF) (l := r.zipIdx 0) (by simp -implicitDefEqProofs [c1, en]) (by omega) rfl (fun a _ => by rfl) (fun a _ => by rfl) (fun p hp => ?_) (fun p hp _ => ?_)
    · have hy := hr p.1 (List.fst_mem_of_mem_zipIdx hp)
      have e := figured_any (w := w) hy.le
      unfold t_law_wrong_v7_1
      cases q : numV p.1 <;> rw [q] at e <;> simp -implicitDefEqProofs [e, optI, q]
    · unfold e_law_wrong_v7_2
      simp -implicitDefEqProofs [natD]
  have e4 : l_law_wrong_v7_4 ⟨[.val (.list D), .no, .no, .no, .no], w⟩ = .ok (.new ((badN tieV r 0).map natD)) ⟨[.val (.list D), .no, .no, .no, .no], w⟩ := by
    unfold badN
    rw [List.map_map]
    refine lc_gen (fun p : Str × Nat => ⟨[.val (.list D), .no, .no, .val (.int ((p.2 : Nat) : Int)), .val (.str p.1)], w⟩) _ _ (f := enF) (l := r.zipIdx 0) (by simp -implicitDefEqProofs [c1, en]) (by omega) rfl (fun a _ => by rfl) (fun a _ => by rfl) (fun p hp => ?_) (fun p hp _ => ?_)
    · have hy := hr p.1 (List.fst_mem_of_mem_zipIdx hp)
      have e := law_tie_any (w := w) hy
      unfold t_law_wrong_v7_3
      cases q : tieV p.1 <;> rw [q] at e <;> simp -implicitDefEqProofs [e, tieR, q]
    · unfold e_law_wrong_v7_4
      simp -implicitDefEqProofs [natD]
  have lb : (badN numV r 0).length ≤ r.length := bad_len
  have lt : (badN tieV r 0).length ≤ r.length := bad_len
  have hN := bad_nums r 0
  have hT := bad_ties r 0
  have hdN := head_of (l := badN numV r 0)
  have hdT := head_of (l := badN tieV r 0)
  rw [hN] at hdN
  rw [hT] at hdT
  have lbD : ((badN numV r 0).map natD).length = (badN numV r 0).length := List.length_map _
  have ltD : ((badN tieV r 0).map natD).length = (badN tieV r 0).length := List.length_map _
  obtain ⟨BN, hBN⟩ : ∃ D, (badN numV r 0).map natD = D := ⟨_, rfl⟩
  obtain ⟨BT, hBT⟩ : ∃ D, (badN tieV r 0).map natD = D := ⟨_, rfl⟩
  rw [hBN] at e2 hdN lbD
  rw [hBT] at e4 hdT ltD
  have z1 : leS BN.length := size_le (by omega)
  have z2 : leS (BN.length + 1) := size_le (by omega)
  have z3 : leS (BT.length + 1) := size_le (by omega)
  unfold wrongV paperV
  dsimp only
  by_cases hL : w0 ∈ LS
  · have ht : ¬ w0 = Str.ofString "tree" := by rintro rfl; revert hL; decide +kernel
    rw [if_neg ht, if_pos hL]
    have hL' : w0 = Str.ofString "line" ∨ w0 = Str.ofString "row" ∨ w0 = Str.ofString "gone" ∨ w0 = Str.ofString "order" ∨ w0 = Str.ofString "ring" := by
      unfold LS at hL
      simpa using hL
    have inL : inO (.str w0) (.list [.str (Str.ofString "line"), .str (Str.ofString "row"), .str (Str.ofString "gone"), .str (Str.ofString "order"), .str (Str.ofString "ring")]) = some (.val (.bool true)) := by
      have := in_strs (x := w0) (ks := LS)
      rw [decide_eq_true hL] at this
      exact this
    by_cases z : r = []
    · rw [if_pos z]
      have lo1 : lenO [.list D] = some (.val (.int 1)) := by rw [lo, z]; rfl
      have z4 : leS (BN.length + 1 + 1) := size_le (by omega)
      have z5 : leS (1 + BN.length) := size_le (by omega)
      unfold F_law_wrong_v7 p_law_wrong_v7
      simp only [x_runF]
      simp -implicitDefEqProofs [i0, inL, s1, s5, e2, lo1, w1', z1, z2, z4, z5, optN]
    · rw [if_neg z]
      have rp : 0 < r.length := List.length_pos_iff.mpr z
      have nl : ¬ (r.length : Int) + 1 = 1 := by omega
      rw [Nat.add_zero] at hdN
      cases q : numsV r 1 with
      | inl l =>
        rw [q] at hdN
        unfold F_law_wrong_v7 p_law_wrong_v7
        simp only [x_runF]
        simp -implicitDefEqProofs [i0, inL, s0, s1, s5, e2, lo, nl, w0', z1, z2, hdN, -x_ixL, z]
      | inr j =>
        rw [q] at hdN
        unfold F_law_wrong_v7 p_law_wrong_v7
        simp only [x_runF]
        simp -implicitDefEqProofs [i0, inL, s0, s1, s5, e2, lo, nl, w0', z1, z2, hdN, -x_ixL, z]
  · have notL : inO (.str w0) (.list [.str (Str.ofString "line"), .str (Str.ofString "row"), .str (Str.ofString "gone"), .str (Str.ofString "order"), .str (Str.ofString "ring")]) = some (.val (.bool false)) := by
      have := in_strs (x := w0) (ks := LS)
      rw [decide_eq_false hL] at this
      exact this
    by_cases ht : w0 = Str.ofString "tree"
    · rw [if_pos ht]
      have eq : eqO (.str w0) (.str (Str.ofString "tree")) = some (.val (.bool true)) := by simp [ht]
      rw [Nat.add_zero] at hdT
      cases q : tiesV r 1 with
      | inl l =>
        rw [q] at hdT
        unfold F_law_wrong_v7 p_law_wrong_v7
        simp only [x_runF]
        simp -implicitDefEqProofs [i0, notL, s1, s5, e4, eq, z3, hdT, -x_ixL]
      | inr j =>
        rw [q] at hdT
        unfold F_law_wrong_v7 p_law_wrong_v7
        simp only [x_runF]
        simp -implicitDefEqProofs [i0, notL, s1, s5, e4, eq, z3, hdT, -x_ixL]
    · rw [if_neg ht, if_neg hL]
      have es := shape_any (x := w0) (w := w)
      have em := marks_any (x := w0) (w := w)
      have mL : lenO [.list ((MK w0).map mkD)] = some (.val (.int ((MK w0).length : Int))) := by
        show some (R.val (.int (((MK w0).map mkD).length : Int))) = _
        rw [List.length_map]
      have wl := wrong_loop (WD := D) (v1 := .no) (w := w) (M := MK w0) MK_len r 0 .no .no hr (Nat.zero_le _)
      rw [List.drop_zero, Nat.add_zero, Nat.zero_add] at wl
      have ck : checkM (MK w0) r 1 = match listsV true (FN w0) r 1 with | .inl _ => none | .inr q => some q := check_lists (FN w0) true r 1
      by_cases zF : FN w0 = []
      · rw [if_pos zF]
        have em0 : (MK w0).map mkD = [] := by unfold MK; rw [zF]; rfl
        rw [em0] at em
        rw [zF] at es em
        unfold F_law_wrong_v7 p_law_wrong_v7
        simp only [x_runF]
        simp only [List.map_nil] at es em
        simp -implicitDefEqProofs [i0, notL, ht, s5, es, em, optN, -x_ixL]
      · rw [if_neg zF]
        have mn : ¬ (MK w0).map mkD = [] := fun z => by
          have z := List.map_eq_nil_iff.mp z
          unfold MK at z
          rcases FN_cases zF with ⟨_, e⟩ | ⟨_, e⟩ | ⟨_, e⟩ | ⟨_, e⟩ <;> rw [e] at z <;> simp [marksM] at z
        obtain ⟨MD, hMD⟩ : ∃ D, (MK w0).map mkD = D := ⟨_, rfl⟩
        obtain ⟨FD, hFD⟩ : ∃ D, (FN w0).map natD = D := ⟨_, rfl⟩
        rw [hFD] at es em
        rw [hMD] at em mL mn wl
        have eV : (match (match listsV true (FN w0) r 1 with | .inl g => (.inl (formP w0 g) : Sum PyData Nat) | .inr q => .inr q) with | .inl _ => none | .inr q => some q : Option Nat) = checkM (MK w0) r 1 := by
          rw [ck]
          cases listsV true (FN w0) r 1 <;> rfl
        have goal : F_law_wrong_v7 [.val (.list D)] w = .ok (.val (optN (checkM (MK w0) r 1))) w := by
          rcases wl with ⟨s', q, hs', o, e⟩ | ⟨u3, u4, o, e⟩
          · rw [e]
            unfold F_law_wrong_v7 p_law_wrong_v7
            simp only [x_runF]
            simp -implicitDefEqProofs [i0, notL, ht, s5, es, em, mn, c1, en, o, hs', optN, -x_ixL]
          · rw [e]
            by_cases c : r.length < (MK w0).length
            · rw [if_pos c]
              have c3 : (r.length : Int) + 1 ≤ ((MK w0).length : Int) := by omega
              have c4 : optN (some (1 + r.length)) = .int ((r.length : Int) + 1) := by
                show PyData.int (((1 + r.length : Nat)) : Int) = _
                congr 1
                omega
              rw [c4]
              unfold F_law_wrong_v7 p_law_wrong_v7
              simp only [x_runF]
              simp -implicitDefEqProofs [i0, notL, ht, s5, es, em, mn, c1, en, o, lo, mL, c3, -x_ixL]
            · rw [if_neg c]
              have c3 : ¬ (r.length : Int) + 1 ≤ ((MK w0).length : Int) := by omega
              unfold F_law_wrong_v7 p_law_wrong_v7
              simp only [x_runF]
              simp -implicitDefEqProofs [i0, notL, ht, s5, es, em, mn, c1, en, o, lo, mL, c3, optN, -x_ixL]
        rw [← eV] at goal
        cases q : listsV true (FN w0) r 1 <;> rw [q] at goal <;> exact goal

end DL

noncomputable section
namespace DL
open PySem L2
def e_law_paper_1 : M R := fUser F_law_tie_v2 (fCons (fVar 2) fNil)
abbrev l_law_paper_1 : M R := fLc (fLstI (fSlice (fVar 0) (fPart (fC (.int 1))) fNoPart)) (bName 2) fYes (e_law_paper_1) [2]
def p_law_paper : DSt → Flow := fseq (fIfS (fB (fOp (lift2 eqO) (fOp (lift2 ixO) (fVar 0) (fC (.int 0))) (fC (.str "tree")))) (fRet (fTup (fCons (fOp (lift2 ixO) (fVar 0) (fC (.int 0))) (fCons (fLc (fLstI (fSlice (fVar 0) (fPart (fC (.int 1))) fNoPart)) (bName 2) fYes (e_law_paper_1) [2]) fNil)))) fnext) (fseq (fCuts "/" 1 2 (fLstI (fSlice (fVar 0) (fPart (fC (.int 1))) fNoPart))) (fseq (fIfS (fB (fOp (lift2 inO) (fOp (lift2 ixO) (fVar 0) (fC (.int 0))) (fLst (fCons (fC (.str "apart")) (fCons (fC (.str "cross")) fNil))))) (fRet (fTup (fCons (fOp (lift2 ixO) (fVar 0) (fC (.int 0))) (fCons (fOp (lift2 ixO) (fVar 1) (fC (.int 0))) (fCons (fSlice (fVar 1) (fPart (fC (.int 1))) fNoPart) fNil))))) fnext) (fRet (fCall tupleO (pCons (fOp (lift2 addO) (fSlice (fVar 0) fNoPart (fPart (fC (.int 1)))) (fVar 1)) fNil)))))
def F_law_paper : List R → Pw → FRes := runF 3 1 p_law_paper
/-! the law's own paper -/
theorem ties_map : ∀ {r : List Str} {p : Nat} {l : List (Int × Int)}, tiesV r p = .inl l → r.map (fun y => tieR (tieV y)) = l.map ppT
  | [], p, l, h => by cases h; rfl
  | y :: r, p, l, h => by
    rw [tiesV] at h
    cases q : tieV y with
    | none => rw [q] at h; cases h
    | some n =>
      rw [q] at h
      dsimp only at h
      cases q2 : tiesV r (p + 1) with
      | inr j => rw [q2] at h; cases h
      | inl l2 =>
        rw [q2] at h
        cases h
        rw [List.map_cons, List.map_cons, ties_map q2, q]
        rfl
theorem cut_run {r : List Str} {g0 : List (List Int)} {l : List Int} {a : Sl} {w : Pw} (h : cutW strk r [] [] = some (g0, l)) (hr : r ≠ []) (hl : r.length ≤ 980) :
    ∃ v2, kCuts (Str.ofString "/") 1 2 (r.map .str) ⟨[a, .no, .no], w⟩ = .next ⟨[a, .own ((g0 ++ [l]).map llD), v2], w⟩ := by
  obtain ⟨r', y, rfl⟩ : ∃ r' y, r = r' ++ [y] := ⟨_, _, (List.dropLast_concat_getLast hr).symm⟩
  have h2 : cutW (Str.ofString "/") (r' ++ [y]) [] [] = some (g0, l) := h
  have e := y_kCuts (j := 1) (i := 2) (s := ⟨[a, .no, .no], w⟩) h2 (size_lt (by omega))
  refine ⟨.val (.str y), ?_⟩
  rw [e, putL_last]
  rfl
theorem add_list8 {a b : List PyData} (h : a.length + b.length ≤ 90000) : addO (.list a) (.list b) = some (.new (a ++ b)) := by
  have : leS (a.length + b.length) := size_le (by omega)
  simp [this]
theorem paper_any {w0 : Str} {r : List Str} {d : PyData} {w : Pw} (hW : ∀ y ∈ w0 :: r, Wd y) (lW : r.length ≤ 980) (hd : paperV (w0 :: r) = .inl d) : F_law_paper [.val (.list ((w0 :: r).map .str))] w = .ok (.val d) w := by
  have i0 : ixO (.list ((w0 :: r).map .str)) (.int 0) = some (.val (.str w0)) := by simp [ixO]
  have c1 : cutD ((w0 :: r).map .str) (some 1) none = r.map .str := by
    rw [cut_mapZ]
    unfold cutZ
    rw [show (some (1 : Int)) = some ((1 : Nat) : Int) from rfl, HT.sIx_nat, HT.sIx_none]
    simp
  have c0 : cutD ((w0 :: r).map .str) none (some 1) = [.str w0] := by
    rw [cut_mapZ]
    unfold cutZ
    rw [show (some (1 : Int)) = some ((1 : Nat) : Int) from rfl, HT.sIx_nat, HT.sIx_none]
    simp
  have hr : ∀ y ∈ r, Wd y := fun y hy => hW y (by simp [hy])
  have s2 : leS 2 := size_le (by omega)
  have s3 : leS 3 := size_le (by omega)
  have inA := in_strs (x := w0) (ks := [Str.ofString "apart", Str.ofString "cross"])
  rw [show ([Str.ofString "apart", Str.ofString "cross"].map PyData.str) = [.str (Str.ofString "apart"), .str (Str.ofString "cross")] from rfl] at inA
  obtain ⟨D, hD⟩ : ∃ D, (w0 :: r).map PyData.str = D := ⟨_, rfl⟩
  rw [hD] at i0 c1 c0
  rw [hD]
  unfold paperV at hd
  dsimp only at hd
  by_cases ht : w0 = Str.ofString "tree"
  · rw [if_pos ht] at hd
    have eq : eqO (.str w0) (.str (Str.ofString "tree")) = some (.val (.bool true)) := by simp [ht]
    cases q : tiesV r 1 with
    | inr j => rw [q] at hd; cases hd
    | inl l =>
      rw [q] at hd
      cases hd
      have e1 : l_law_paper_1 ⟨[.val (.list D), .no, .no], w⟩ = .ok (.new (l.map ppT)) ⟨[.val (.list D), .no, .no], w⟩ := by
        rw [← ties_map q]
        refine lc_all (fun y : Str => ⟨[.val (.list D), .no, .val (.str y)], w⟩) _ (f := fun y : Str => PyData.str y) (l := r) (by simp -implicitDefEqProofs [c1]) (by omega) rfl (fun a _ => by rfl) (fun a _ => by rfl) (fun y hy => ?_)
        have e := law_tie_any (w := w) (hr y hy)
        unfold e_law_paper_1
        simp -implicitDefEqProofs [e]
      obtain ⟨LT, hLT⟩ : ∃ D, l.map ppT = D := ⟨_, rfl⟩
      rw [hLT] at e1
      unfold F_law_paper p_law_paper
      simp only [x_runF]
      simp -implicitDefEqProofs [i0, eq, e1, s2, hLT, -x_ixL]
  · rw [if_neg ht] at hd
    by_cases hL : w0 ∈ LS
    · rw [if_pos hL] at hd
      have nA : w0 ∉ [Str.ofString "apart", Str.ofString "cross"] := fun z => by
        simp only [List.mem_cons, List.not_mem_nil, or_false] at z
        rcases z with rfl | rfl <;> (revert hL; decide +kernel)
      rw [decide_eq_false nA] at inA
      by_cases z : r = []
      · rw [if_pos z] at hd; cases hd
      · rw [if_neg z] at hd
        cases q : numsV r 1 with
        | inr j => rw [q] at hd; cases hd
        | inl l =>
          rw [q] at hd
          cases hd
          have ec := cut_nums (dl := []) r.length r 1 l [] (by rw [List.take_length]; exact q) (Nat.le_refl _)
          rw [List.drop_length, List.nil_append, cutW] at ec
          obtain ⟨v2, kc⟩ := cut_run (a := .val (.list D)) (w := w) ec z lW
          rw [List.nil_append] at kc
          have es : [llD l] = [.list (l.map .int)] := rfl
          obtain ⟨RD, hRD⟩ : ∃ D, r.map PyData.str = D := ⟨_, rfl⟩
          rw [hRD] at c1 kc
          rw [List.map_singleton] at kc
          unfold F_law_paper p_law_paper
          simp only [x_runF]
          simp -implicitDefEqProofs [i0, ht, c1, c0, kc, inA, s2, -x_ixL]
          rfl
    · rw [if_neg hL] at hd
      by_cases zF : FN w0 = []
      · rw [if_pos zF] at hd; cases hd
      · rw [if_neg zF] at hd
        cases q : listsV true (FN w0) r 1 with
        | inr j => rw [q] at hd; cases hd
        | inl g =>
          rw [q] at hd
          cases hd
          have gl := lists_len q
          have z : r ≠ [] := by
            rintro rfl
            have h0 : (0 : Nat) < 2 := by omega
            rcases FN_cases zF with ⟨_, e⟩ | ⟨_, e⟩ | ⟨_, e⟩ | ⟨_, e⟩ <;> rw [e] at q <;> simp [listsV, skipV, numsV] at q
          obtain ⟨s, ss, hss⟩ : ∃ s ss, FN w0 = s :: ss := List.exists_cons_of_ne_nil zF
          have q' := q
          rw [hss] at q'
          obtain ⟨g0, l, eg, ec⟩ := cut_lists ss s r 1 [] g q'
          rw [List.nil_append] at ec
          obtain ⟨v2, kc⟩ := cut_run (a := .val (.list D)) (w := w) ec z lW
          rw [← eg] at kc
          obtain ⟨RD, hRD⟩ : ∃ D, r.map PyData.str = D := ⟨_, rfl⟩
          rw [hRD] at c1 kc
          have gi : ixO (.list (g.map llD)) (.int 0) = some (.val (llD (g.headD []))) := by
            cases g with
            | nil => rw [hss] at gl; simp at gl
            | cons a t => simp [ixO]
          have gc : cutD (g.map llD) (some 1) none = (g.drop 1).map llD := by
            rw [cut_mapZ]
            unfold cutZ
            have : g.length = ss.length + 1 := by rw [gl, hss]; rfl
            rw [show (some (1 : Int)) = some ((1 : Nat) : Int) from rfl, HT.sIx_nat, HT.sIx_none, show min 1 g.length = 1 by omega, List.take_of_length_le (by rw [List.length_drop]; omega)]
          have gm : w0 ∉ [Str.ofString "apart", Str.ofString "cross"] → g.length = 2 → g.map llD = [llD (g.headD []), llD ((g.drop 1).headD [])] := fun _ h => by
            match g, h with
            | [a, b], _ => rfl
          have sg : leS (1 + (g.map llD).length) := size_le (by
            rw [List.length_map, gl]
            rcases FN_cases zF with ⟨_, e⟩ | ⟨_, e⟩ | ⟨_, e⟩ | ⟨_, e⟩ <;> rw [e] <;> simp)
          have ad := add_list8 (a := [.str w0]) (b := g.map llD) (by
            rw [List.length_map, gl]
            rcases FN_cases zF with ⟨_, e⟩ | ⟨_, e⟩ | ⟨_, e⟩ | ⟨_, e⟩ <;> rw [e] <;> simp)
          obtain ⟨GD, hGD⟩ : ∃ D, g.map llD = D := ⟨_, rfl⟩
          rw [hGD] at kc gi gc ad gm sg
          unfold formP
          by_cases hA : w0 ∈ [Str.ofString "apart", Str.ofString "cross"]
          · rw [decide_eq_true hA] at inA
            have g2 : ¬ g.length = 2 := by
              simp only [List.mem_cons, List.not_mem_nil, or_false] at hA
              rw [gl]
              rcases FN_cases zF with ⟨h, e⟩ | ⟨h, e⟩ | ⟨_, e⟩ | ⟨_, e⟩
              · rw [h] at hA; exact absurd hA (by decide +kernel)
              · rw [h] at hA; exact absurd hA (by decide +kernel)
              · rw [e]; simp
              · rw [e]; simp
            rw [if_neg g2]
            unfold F_law_paper p_law_paper
            simp only [x_runF]
            simp -implicitDefEqProofs [i0, ht, c1, c0, kc, inA, s2, s3, gi, gc, -x_ixL]
          · rw [decide_eq_false hA] at inA
            have g2 : g.length = 2 := by
              rw [gl]
              rcases FN_cases zF with ⟨h, e⟩ | ⟨h, e⟩ | ⟨h, _⟩ | ⟨h, _⟩
              · rw [e]; rfl
              · rw [e]; rfl
              · exact absurd (by rw [h]; simp) hA
              · exact absurd (by rw [h]; simp) hA
            rw [if_pos g2]
            have em := gm hA g2
            have ad2 : addO (.list [.str w0]) (.list GD) = some (.new [.str w0, llD (g.headD []), llD ((g.drop 1).headD [])]) := by rw [ad, em]; rfl
            unfold F_law_paper p_law_paper
            simp only [x_runF]
            simp -implicitDefEqProofs [i0, ht, c1, c0, kc, inA, s2, s3, ad2, -x_ixL, -x_addLL]

end DL

noncomputable section
namespace DL
open PySem L2
def b_law_told_v37_1 : DSt → Flow := fSet 2 (fUser F_read_paper_v2 (fCons (fVar 0) fNil))
def p_law_told_v37 : DSt → Flow := fseq (fSet 1 (fC .none)) (fseq (fSet 2 (fC .none)) (fseq (fTryA ["NoText"] 3 1 b_law_told_v37_1) (fseq (fIfS (fB (fIsN false (fVar 1))) (fRet (fTup (fCons (fVar 2) fNil))) fnext) (fseq (fIfS (fOr (fB (fOp (lift2 neO) (fUser F_law_marks_v11 (fCons (fVar 1) fNil)) (fLst (fCons (fC (.str "NoText")) fNil)))) (fB (fIsi "bool" (fFld "NoText" (fVar 1))))) (fRet (fC .none)) fnext) (fRet (fLst (fCons (fFld "NoText" (fVar 1)) fNil)))))))
def F_law_told_v37 : List R → Pw → FRes := runF 4 1 p_law_told_v37
def b_law_refusals_held_v8_1 : DSt → Flow := fDrop (fUser F_read_paper_v2 (fCons (fVar 1) fNil))
def b_law_refusals_held_v8_2 : DSt → Flow := fSet 2 (fC .none)
def b_law_refusals_held_v8_3 : DSt → Flow := fTryA ["NoText"] 3 2 b_law_refusals_held_v8_1
def p_law_refusals_held_v8 : DSt → Flow := fseq (fSet 0 (fLst fNil)) (fseq (fForH 0 2 "NoText" (fLstI (fLst (fCons (fC (.str "")) (fCons (fC (.str "three 1 2 3 / 4")) (fCons (fC (.str "gone 1 x")) (fCons (fC (.str "tree 1-2 2")) (fCons (fC (.str "cross 0 1 2 3 / 0 1 / 0 1 /")) fNil))))))) (bName 1) b_law_refusals_held_v8_2 b_law_refusals_held_v8_3) (fRet (fOp (lift2 eqO) (fFlds "NoText" 2 (fVar 0)) (fLst (fCons (fC (.int 0)) (fCons (fC (.int 6)) (fCons (fC (.int 2)) (fCons (fC (.int 2)) (fCons (fC (.int 11)) fNil)))))))))
def F_law_refusals_held_v8 : List R → Pw → FRes := runF 4 0 p_law_refusals_held_v8
/-! told, and refused -/
structure WS (ws : List Str) : Prop where
  w : ∀ y ∈ ws, Wd y
  n : ws ≠ []
  l : ws.length ≤ 980
def spT (ws : List Str) : Str := Txt.join (Str.ofString " ") ws
theorem tl_sp : TL.tl (Str.ofString " ") = [32] := by decide
theorem WS.split {ws : List Str} (h : WS ws) : Txt.split (spT ws) (Str.ofString " ") = ws := TL.split_join tl_sp (by decide +kernel) h.n fun p hp => (h.w p hp).s
theorem WS.len {ws : List Str} (h : WS ws) : (spT ws).length ≤ 980 * 981 := by
  rw [wI_len]
  unfold spT
  rw [TL.join_eq, TL.tl_join, tl_sp]
  have := len_joinL [32] (k := 980) (ps := ws.map TL.tl) fun p hp => by
    obtain ⟨y, hy, rfl⟩ := List.mem_map.mp hp
    rw [← wI_len]
    exact (h.w y hy).l
  rw [List.length_map] at this
  exact Nat.le_trans this (Nat.mul_le_mul_right _ h.l)
theorem WS.big {ws : List Str} (h : WS ws) : leS ((spT ws).length + 2) := size_big (by have := h.len; omega)
theorem WS.join {ws : List Str} (h : WS ws) : leJ (Str.ofString " ") ws := leJ_of (n := 980) (k := 980) (by decide) h.l (fun y hy => (h.w y hy).l) (by omega)
theorem WS.read {ws : List Str} {w : Pw} (h : WS ws) : (∀ d, paperV ws = .inl d → F_read_paper_v2 [.val (.str (spT ws))] w = .ok (.val d) w) ∧ (∀ j, paperV ws = .inr j → F_read_paper_v2 [.val (.str (spT ws))] w = .err ⟨"NoText", some (.int (j : Int))⟩ w) := read_paper_any h.big h.split h.w (by have := h.l; omega) h.n
theorem told_paper {ws : List Str} {w : Pw} (h : WS ws) : (∀ d, paperV ws = .inl d → F_law_told_v37 [.val (.str (spT ws))] w = .ok (.val (.tuple [d])) w) ∧ (∀ k, paperV ws = .inr k → F_law_told_v37 [.val (.str (spT ws))] w = .ok (.new [.int (k : Int)]) w) := by
  obtain ⟨x, hx⟩ : ∃ x, spT ws = x := ⟨_, rfl⟩
  have r := h.read (w := w)
  rw [hx] at r
  rw [hx]
  have s1 : leS 1 := size_le (by omega)
  refine ⟨fun f hf => ?_, fun k hk => ?_⟩
  · have e := r.1 f hf
    have hb : b_law_told_v37_1 ⟨[.val (.str x), .val .none, .val .none, .no], w⟩ = .next ⟨[.val (.str x), .val .none, .val f, .no], w⟩ := by
      unfold b_law_told_v37_1
      simp -implicitDefEqProofs [e]
    unfold F_law_told_v37 p_law_told_v37
    simp only [x_runF]
    simp -implicitDefEqProofs [hb]
  · have e := r.2 k hk
    have hb : b_law_told_v37_1 ⟨[.val (.str x), .val .none, .val .none, .no], w⟩ = .err ⟨"NoText", some (.int (k : Int))⟩ ⟨[.val (.str x), .val .none, .val .none, .no], w⟩ := by
      unfold b_law_told_v37_1
      simp -implicitDefEqProofs [e]
    have ar : argOk (some (.int (k : Int))) := .inr ⟨_, rfl⟩
    have hm := marks_text (n := (k : Int)) (w := w)
    have eq : neO (.list [.str (Str.ofString "NoText")]) (.list [.str (Str.ofString "NoText")]) = some (.val (.bool false)) := neO_self (n := 2) (by simp) (by omega)
    unfold F_law_told_v37 p_law_told_v37
    simp only [x_runF]
    simp -implicitDefEqProofs [hb, y_kTryA_err ar, hm, eq]
theorem ties_len : ∀ {xs : List Str} {p : Nat} {l : List (Int × Int)}, tiesV xs p = .inl l → l.length = xs.length
  | [], p, l, h => by cases h; rfl
  | x :: xs, p, l, h => by
    rw [tiesV] at h
    cases q : tieV x with
    | none => rw [q] at h; cases h
    | some n =>
      rw [q] at h
      dsimp only at h
      cases q2 : tiesV xs (p + 1) with
      | inr j => rw [q2] at h; cases h
      | inl l2 => rw [q2] at h; cases h; simp [ties_len q2]
theorem lists_each : ∀ {ss : List Nat} {first : Bool} {ws : List Str} {p : Nat} {g : List (List Int)}, listsV first ss ws p = .inl g → ∀ l ∈ g, l.length ≤ ws.length
  | [], first, ws, p, g, h, l, hl => by
    rw [listsV] at h
    split at h
    · cases h; cases hl
    · cases h
  | s :: ss, first, ws, p, g, h, l, hl => by
    rw [listsV] at h
    cases q : skipV first ws p with
    | none => rw [q] at h; cases h
    | some rp =>
      obtain ⟨r, p1⟩ := rp
      have lr : r.length ≤ ws.length := by
        unfold skipV at q
        split at q
        · cases q; exact Nat.le_refl _
        · cases ws with
          | nil => cases q
          | cons a t =>
            dsimp only at q
            split at q
            · cases q; simp
            · cases q
      rw [q] at h
      dsimp only at h
      cases q2 : numsV (r.take s) p1 with
      | inr j => rw [q2] at h; cases h
      | inl l0 =>
        rw [q2] at h
        dsimp only at h
        split at h
        · cases h
        · cases q3 : listsV false ss (r.drop s) (p1 + s) with
          | inr j => rw [q3] at h; cases h
          | inl ls =>
            rw [q3] at h
            cases h
            rcases List.mem_cons.mp hl with rfl | hl
            · have := nums_len q2
              rw [List.length_take] at this
              omega
            · have := lists_each q3 l hl
              rw [List.length_drop] at this
              omega
theorem bdd_ints {l : List Int} (h : l.length ≤ 1000) : bdd 1 (.list (l.map .int)) := by
  rw [bdd_list, List.length_map]
  refine ⟨h, fun d hd => ?_⟩
  obtain ⟨z, _, rfl⟩ := List.mem_map.mp hd
  simp
theorem paper_bdd {ws : List Str} {d : PyData} (h : WS ws) (hd : paperV ws = .inl d) : bdd 4 (.tuple [d]) := by
  rw [bdd_tuple]
  refine ⟨by simp, fun e he => ?_⟩
  rw [List.mem_singleton.mp he]
  have lw := h.l
  cases ws with
  | nil => exact absurd rfl h.n
  | cons w0 r =>
    rw [List.length_cons] at lw
    unfold paperV at hd
    dsimp only at hd
    split at hd
    · cases q : tiesV r 1 with
      | inr j => rw [q] at hd; cases hd
      | inl l =>
        rw [q] at hd
        cases hd
        have := ties_len q
        rw [bdd_tuple]
        refine ⟨by simp, fun e he => ?_⟩
        simp only [List.mem_cons, List.not_mem_nil, or_false] at he
        rcases he with rfl | rfl
        · simp
        · rw [bdd_list, List.length_map]
          refine ⟨by omega, fun e he => ?_⟩
          obtain ⟨z, _, rfl⟩ := List.mem_map.mp he
          simp [ppT]
    · split at hd
      · split at hd
        · cases hd
        · cases q : numsV r 1 with
          | inr j => rw [q] at hd; cases hd
          | inl l =>
            rw [q] at hd
            cases hd
            have := nums_len q
            rw [bdd_tuple]
            refine ⟨by simp, fun e he => ?_⟩
            simp only [List.mem_cons, List.not_mem_nil, or_false] at he
            rcases he with rfl | rfl
            · simp
            · exact bdd_up (by omega) (bdd_ints (by omega))
      · split at hd
        · cases hd
        · cases q : listsV true (FN w0) r 1 with
          | inr j => rw [q] at hd; cases hd
          | inl g =>
            rw [q] at hd
            cases hd
            have each := lists_each q
            have gl := lists_len q
            have fl : (FN w0).length ≤ 4 := by
              rename_i z
              rcases FN_cases z with ⟨_, e⟩ | ⟨_, e⟩ | ⟨_, e⟩ | ⟨_, e⟩ <;> rw [e] <;> simp
            have hh : ∀ g' : List (List Int), (∀ l ∈ g', l ∈ g) → bdd 1 (llD (g'.headD [])) := fun g' hg => by
              cases g' with
              | nil => simp [llD]
              | cons a t =>
                have := each a (hg a (by simp))
                exact bdd_ints (l := a) (by omega)
            have h0 := hh g (fun l hl => hl)
            have h1 := hh (g.drop 1) (fun l hl => List.mem_of_mem_drop hl)
            unfold formP
            split
            · rw [bdd_tuple]
              refine ⟨by simp, fun e he => ?_⟩
              simp only [List.mem_cons, List.not_mem_nil, or_false] at he
              rcases he with rfl | rfl | rfl
              · simp
              · exact bdd_up (by omega) h0
              · exact bdd_up (by omega) h1
            · rw [bdd_tuple]
              refine ⟨by simp, fun e he => ?_⟩
              simp only [List.mem_cons, List.not_mem_nil, or_false] at he
              rcases he with rfl | rfl | rfl
              · simp
              · exact bdd_up (by omega) h0
              · rw [bdd_list, List.length_map, List.length_drop]
                refine ⟨by omega, fun e he => ?_⟩
                obtain ⟨l, hl, rfl⟩ := List.mem_map.mp he
                exact bdd_ints (by have := each l (List.mem_of_mem_drop hl); omega)
theorem wrong_of {ws : List Str} {k : Nat} (h : wrongV ws = some k) : paperV ws = .inr k := by
  unfold wrongV at h
  split at h
  · cases h
  · rename_i q e; cases h; exact e
theorem ws_of {ws : List Str} (h : ws.all (fun y => decide (y.length ≤ 980) && decide (32 ∉ TL.tl y)) = true) (h0 : ws ≠ []) (hl : ws.length ≤ 980) : WS ws := by
  refine ⟨fun y hy => ?_, h0, hl⟩
  have := List.all_eq_true.mp h y hy
  simp only [Bool.and_eq_true, decide_eq_true_eq] at this
  exact ⟨this.1, this.2⟩
theorem held_stepP {ws : List Str} {k : Nat} {a : Addr} {t : Str} {v2 v3 : Sl} {w : Pw} (h : WS ws) (ht : t = spT ws) (hk : wrongV ws = some k) :
    b_law_refusals_held_v8_2 ⟨[.raw (.ref a), .val (.str t), v2, v3], w⟩ = .next ⟨[.raw (.ref a), .val (.str t), .val .none, v3], w⟩ ∧
    b_law_refusals_held_v8_3 ⟨[.raw (.ref a), .val (.str t), .val .none, v3], w⟩ = .next ⟨[.raw (.ref a), .val (.str t), .ob (.exc ⟨"NoText", some (.int (k : Int))⟩), .no], w⟩ := by
  have e := (h.read (w := w)).2 k (wrong_of hk)
  rw [← ht] at e
  have hb : b_law_refusals_held_v8_1 ⟨[.raw (.ref a), .val (.str t), .val .none, v3], w⟩ = .err ⟨"NoText", some (.int (k : Int))⟩ ⟨[.raw (.ref a), .val (.str t), .val .none, v3], w⟩ := by
    unfold b_law_refusals_held_v8_1
    simp -implicitDefEqProofs [e]
  have ar : argOk (some (.int (k : Int))) := .inr ⟨_, rfl⟩
  refine ⟨?_, ?_⟩
  · unfold b_law_refusals_held_v8_2
    simp -implicitDefEqProofs
  · unfold b_law_refusals_held_v8_3
    simp -implicitDefEqProofs [hb, y_kTryA_err ar]
def W1 : List Str := [""]
def W2 : List Str := ["three", "1", "2", "3", "/", "4"]
def W3 : List Str := ["gone", "1", "x"]
def W4 : List Str := ["tree", "1-2", "2"]
def W5 : List Str := ["cross", "0", "1", "2", "3", "/", "0", "1", "/", "0", "1", "/"]
theorem held_okP {w : Pw} : F_law_refusals_held_v8 [] w = .ok (.val (.bool true)) w := by
  obtain ⟨L, hL⟩ : ∃ L, [PyData.str (Str.ofString ""), .str (Str.ofString "three 1 2 3 / 4"), .str (Str.ofString "gone 1 x"), .str (Str.ofString "tree 1-2 2"), .str (Str.ofString "cross 0 1 2 3 / 0 1 / 0 1 /")] = L := ⟨_, rfl⟩
  have o : okH 0 2 "NoText" (bName 1) b_law_refusals_held_v8_2 b_law_refusals_held_v8_3 L ⟨[.own [], .no, .no, .no], w⟩ ([0, 6, 2, 2, 11], ⟨[.own [], .val (.str (Str.ofString "cross 0 1 2 3 / 0 1 / 0 1 /")), .ob (.exc ⟨"NoText", some (.int 11)⟩), .no], w⟩) := fun a => by
    have l0 : ltS 0 := size_lt (by omega)
    have l1 : ltS 1 := size_lt (by omega)
    have l2 : ltS 2 := size_lt (by omega)
    have l3 : ltS 3 := size_lt (by omega)
    have l4 : ltS 4 := size_lt (by omega)
    have h1 := fun v2 v3 => held_stepP (a := a) (v2 := v2) (v3 := v3) (w := w) (ws := W1) (k := 0) (t := Str.ofString "") (ws_of (by decide +kernel) (by decide) (by decide)) (by decide +kernel) (by decide +kernel)
    have h2 := fun v2 v3 => held_stepP (a := a) (v2 := v2) (v3 := v3) (w := w) (ws := W2) (k := 6) (t := Str.ofString "three 1 2 3 / 4") (ws_of (by decide +kernel) (by decide) (by decide)) (by decide +kernel) (by decide +kernel)
    have h3 := fun v2 v3 => held_stepP (a := a) (v2 := v2) (v3 := v3) (w := w) (ws := W3) (k := 2) (t := Str.ofString "gone 1 x") (ws_of (by decide +kernel) (by decide) (by decide)) (by decide +kernel) (by decide +kernel)
    have h4 := fun v2 v3 => held_stepP (a := a) (v2 := v2) (v3 := v3) (w := w) (ws := W4) (k := 2) (t := Str.ofString "tree 1-2 2") (ws_of (by decide +kernel) (by decide) (by decide)) (by decide +kernel) (by decide +kernel)
    have h5 := fun v2 v3 => held_stepP (a := a) (v2 := v2) (v3 := v3) (w := w) (ws := W5) (k := 11) (t := Str.ofString "cross 0 1 2 3 / 0 1 / 0 1 /") (ws_of (by decide +kernel) (by decide) (by decide)) (by decide +kernel) (by decide +kernel)
    have f1 := fun v2 v3 => (h1 v2 v3).1
    have f2 := fun v2 v3 => (h2 v2 v3).1
    have f3 := fun v2 v3 => (h3 v2 v3).1
    have f4 := fun v2 v3 => (h4 v2 v3).1
    have f5 := fun v2 v3 => (h5 v2 v3).1
    have g1 := fun v3 => (h1 .no v3).2
    have g2 := fun v3 => (h2 .no v3).2
    have g3 := fun v3 => (h3 .no v3).2
    have g4 := fun v3 => (h4 .no v3).2
    have g5 := fun v3 => (h5 .no v3).2
    have b2 : ∀ (d : PyData) (v1 v2 v3 : Sl), bName 1 d ⟨[.raw (.ref a), v1, v2, v3], w⟩ = some ⟨[.raw (.ref a), .val d, v2, v3], w⟩ := fun d v1 v2 v3 => rfl
    show runH 0 2 "NoText" (bName 1) b_law_refusals_held_v8_2 b_law_refusals_held_v8_3 L [] ⟨[.raw (.ref a), .no, .no, .no], w⟩ = some ([0, 6, 2, 2, 11], ⟨[.raw (.ref a), .val (.str (Str.ofString "cross 0 1 2 3 / 0 1 / 0 1 /")), .ob (.exc ⟨"NoText", some (.int 11)⟩), .no], w⟩)
    rw [← hL]
    simp only [runH, b2, f1, f2, f3, f4, f5, g1, g2, g3, g4, g5, List.getElem?_cons_succ, List.getElem?_cons_zero, List.length_nil, List.length_cons, List.nil_append, List.cons_append, l0, l1, l2, l3, l4, and_self, if_true, Nat.zero_add, Nat.reduceAdd]
    rfl
  have kf := kForH_ok (j := 0) (c := 2) (s := ⟨[.own [], .no, .no, .no], w⟩) rfl o
  have l5 : leS 5 := size_le (by omega)
  have lL : L.length = 5 := by rw [← hL]; rfl
  have eq : eqO (.list [.int 0, .int 6, .int 2, .int 2, .int 11]) (.list [.int 0, .int 6, .int 2, .int 2, .int 11]) = some (.val (.bool true)) := by simpa using x_eqL (a := [0, 6, 2, 2, 11]) (b := [0, 6, 2, 2, 11])
  unfold F_law_refusals_held_v8 p_law_refusals_held_v8
  simp only [x_runF]
  simp -implicitDefEqProofs [hL, kf, l5, lL, eq]

end DL

noncomputable section
namespace DL
open PySem L2
def b_law_falling_v3_1 : DSt → Flow := fIfS (fB (fOp (lift2 neO) (fOp (lift2 inO) (fVar 5) (fVar 3)) (fOp (lift2 inO) (fVar 6) (fVar 3)))) (fDrop (fApp 4 (fOp (lift2 ixO) (fLst (fCons (fVar 5) (fCons (fVar 6) fNil))) (fCall intO (pCons (fOp (lift2 inO) (fVar 5) (fVar 3)) fNil))))) fnext
abbrev o_law_falling_v3_1 : List PyData → DSt → Flow := loopF (bTup 2 (bCons (bName 5) (bCons (bName 6) bNil))) b_law_falling_v3_1
def c_law_falling_v3_2 : M Bool := fB (fOp (lift2 ltO) (fCall lenO (pCons (fVar 3) fNil)) (fCall lenO (pCons (fVar 1) fNil)))
def b_law_falling_v3_3 : DSt → Flow := fseq (fSet 4 (fLst fNil)) (fseq (fFor (fLstI (fVar 2)) (bTup 2 (bCons (bName 5) (bCons (bName 6) bNil))) b_law_falling_v3_1) (fDrop (fApp 3 (fOp (lift2 ixO) (fVar 4) (fUser F_law_draw_v3 (fCons (fVar 0) (fCons (fCall lenO (pCons (fVar 4) fNil)) fNil)))))))
abbrev o_law_falling_v3_3 : DSt → Flow := whileF c_law_falling_v3_2 b_law_falling_v3_3 10000
def p_law_falling_v3 : DSt → Flow := fseq (fSet 3 (fLst (fCons (fOp (lift2 ixO) (fVar 1) (fUser F_law_draw_v3 (fCons (fVar 0) (fCons (fCall lenO (pCons (fVar 1) fNil)) fNil)))) fNil))) (fseq (whileF c_law_falling_v3_2 b_law_falling_v3_3 10000) (fRet (fVar 3)))
def F_law_falling_v3 : List R → Pw → FRes := runF 7 3 p_law_falling_v3
def b_law_folk_v14_1 : DSt → Flow := fseq (fSet 6 (fUser F_law_falling_v3 (fCons (fVar 0) (fCons (fVar 1) (fCons (fVar 2) fNil))))) (fseq (fIfS (fAnd (fB (fOp (lift2 eqO) (fVar 3) (fC (.int 2)))) (fAnd (fB (fOp (lift2 gtO) (fCall lenO (pCons (fVar 1) fNil)) (fC (.int 1)))) (fB (fOp (lift2 eqO) (fUser F_law_draw_v3 (fCons (fVar 0) (fCons (fC (.int 4)) fNil))) (fC (.int 0)))))) (fseq (fSet 7 (fUser F_law_draw_v3 (fCons (fVar 0) (fCons (fOp (lift2 subO) (fCall lenO (pCons (fVar 1) fNil)) (fC (.int 1))) fNil)))) (fSwap 6 (fTup (fCons (fOp (lift2 ixO) (fVar 6) (fOp (lift2 addO) (fVar 7) (fC (.int 1)))) (fCons (fOp (lift2 ixO) (fVar 6) (fVar 7)) fNil))) (fVar 7) (fOp (lift2 addO) (fVar 7) (fC (.int 1))))) fnext) (fseq (fIfS (fB (fOp (lift2 eqO) (fVar 3) (fC (.int 3)))) (fSet 6 (fUser F_law_shuffled_v3 (fCons (fVar 0) (fCons (fVar 1) fNil)))) fnext) (fseq (fIfS (fAnd (fB (fOp (lift2 neO) (fVar 4) (fLst fNil))) (fB (fOp (lift2 eqO) (fUser F_law_draw_v3 (fCons (fVar 0) (fCons (fC (.int 6)) fNil))) (fC (.int 0))))) (fSet 6 (fCall listO (pCons (fOp (lift2 ixO) (fVar 4) (fUser F_law_draw_v3 (fCons (fVar 0) (fCons (fCall lenO (pCons (fVar 4) fNil)) fNil)))) fNil))) fnext) (fDrop (fApp 4 (fVar 6))))))
abbrev o_law_folk_v14_1 : List PyData → DSt → Flow := loopF (bName 5) b_law_folk_v14_1
def p_law_folk_v14 : DSt → Flow := fseq (fSet 3 (fUser F_law_draw_v3 (fCons (fVar 0) (fCons (fC (.int 4)) fNil)))) (fseq (fSet 4 (fLst fNil)) (fseq (fFor (fRng1 (pCons (fOp (lift2 addO) (fC (.int 1)) (fUser F_law_draw_v3 (fCons (fVar 0) (fCons (fOp (lift2 ixO) (fLst (fCons (fC (.int 3)) (fCons (fC (.int 6)) (fCons (fC (.int 20)) fNil)))) (fUser F_law_draw_v3 (fCons (fVar 0) (fCons (fC (.int 3)) fNil)))) fNil)))) fNil)) (bName 5) b_law_folk_v14_1) (fRet (fVar 4))))
def F_law_folk_v14 : List R → Pw → FRes := runF 8 3 p_law_folk_v14
/-! what hangs together, said without lists; rankings drawn along a tree -/
def Conn (T : List (Int × Int)) (some : List Int) (x : Int) : Prop := ∀ F : Int → Prop, F x → (∀ p ∈ T, p.1 ∈ some → p.2 ∈ some → (F p.1 ↔ F p.2)) → ∀ y ∈ some, F y
/-! ### trees as they are made -/
/-! ### rankings that fall -/
def Fal (T : List (Int × Int)) (r : List Int) : Prop := ∀ k, 0 < k → k < r.length → ∃ j, j < k ∧ tieP (r.getD j 0) (r.getD k 0) ∈ T
def nearL (found : List Int) (T : List (Int × Int)) : List Int := (T.filter fun p => decide (¬ (p.1 ∈ found ↔ p.2 ∈ found))).map fun p => if p.1 ∈ found then p.2 else p.1
/-! ### the walks -/
theorem draw_lit {pa : Addr} {w : Pw} {m b : Int} (h : LP pa w m) (b0 : 0 < b) (b1 : b < 2 ^ 100) (hm : m < 2 ^ 37) : ∃ (r : Nat) (w' : Pw), F_law_draw_v3 [.raw (.ref pa), .val (.int (b))] w = .ok (.val (.int ((r : Nat) : Int))) w' ∧ (r : Int) < b ∧ LP pa w' (m + 1) := by
  obtain ⟨r, w', e, r0, r1, q⟩ := draw2_ok h b0 b1 (by omega)
  obtain ⟨r, rfl⟩ := Int.eq_ofNat_of_zero_le r0
  exact ⟨r, w', e, r1, q⟩
end DL

noncomputable section
namespace DL
open PySem L2
def p_law_bent_v17 : DSt → Flow := fseq (fSet 2 (fLst (fCons (fC (.str "0")) (fCons (fC (.str "7")) (fCons (fC (.str "12")) (fCons (fC (.str "/")) (fCons (fC (.str "1-2")) (fCons (fC (.str "0-0")) (fCons (fC (.str "01")) (fCons (fC (.str "")) (fCons (fC (.str "-1")) (fCons (fC (.str "1-")) (fCons (fC (.str "+1")) (fCons (fC (.str "three")) (fCons (fC (.str "cross")) (fCons (fC (.str "tree")) (fCons (fC (.str "line")) (fCons (fC (.str "x")) fNil)))))))))))))))))) (fseq (fSet 2 (fOp (lift2 addO) (fVar 2) (fLst (fCons (fOp (lift2 mulSO) (fC (.str "9")) (fC (.int 30))) (fCons (fOp (lift2 mulSO) (fC (.str "9")) (fC (.int 31))) (fCons (fOp (lift2 addO) (fC (.str "1-")) (fOp (lift2 mulSO) (fC (.str "9")) (fC (.int 31)))) (fCons (fC (.str "1-02")) (fCons (fC (.str "1-2-3")) (fCons (fC (.str "//")) (fCons (fC (.str "1/2")) (fCons (fC (.str "\n")) (fCons (fC (.str "1\n")) (fCons (fC (.str "gone")) fNil))))))))))))) (fseq (fSet 3 (fOp (lift2 ixO) (fVar 2) (fUser F_law_draw_v3 (fCons (fVar 0) (fCons (fCall lenO (pCons (fVar 2) fNil)) fNil))))) (fseq (fSet 4 (fUser F_law_draw_v3 (fCons (fVar 0) (fCons (fOp (lift2 addO) (fCall lenO (pCons (fVar 1) fNil)) (fC (.int 1))) fNil)))) (fseq (fSet 5 (fUser F_law_draw_v3 (fCons (fVar 0) (fCons (fC (.int 6)) fNil)))) (fseq (fIfS (fB (fOp (lift2 eqO) (fVar 5) (fC (.int 0)))) (fRet (fOp (lift2 addO) (fOp (lift2 addO) (fSlice (fVar 1) fNoPart (fPart (fVar 4))) (fSlice (fVar 1) (fPart (fOp (lift2 addO) (fVar 4) (fC (.int 1)))) fNoPart)) (fOp (lift2 mulO) (fLst (fCons (fC (.str "")) fNil)) (fCall intO (pCons (fOp (lift2 eqO) (fCall lenO (pCons (fVar 1) fNil)) (fC (.int 1))) fNil))))) fnext) (fseq (fIfS (fB (fOp (lift2 eqO) (fVar 5) (fC (.int 1)))) (fRet (fOp (lift2 addO) (fOp (lift2 addO) (fSlice (fVar 1) fNoPart (fPart (fVar 4))) (fSlice (fVar 1) (fPart (fVar 4)) (fPart (fOp (lift2 addO) (fVar 4) (fC (.int 1)))))) (fSlice (fVar 1) (fPart (fVar 4)) fNoPart))) fnext) (fseq (fIfS (fB (fOp (lift2 eqO) (fVar 5) (fC (.int 2)))) (fRet (fOp (lift2 addO) (fOp (lift2 addO) (fSlice (fVar 1) fNoPart (fPart (fVar 4))) (fLst (fCons (fVar 3) fNil))) (fSlice (fVar 1) (fPart (fVar 4)) fNoPart))) fnext) (fseq (fIfS (fB (fOp (lift2 eqO) (fVar 5) (fC (.int 3)))) (fRet (fOp (lift2 addO) (fOp (lift2 addO) (fSlice (fVar 1) fNoPart (fPart (fVar 4))) (fLst (fCons (fVar 3) fNil))) (fSlice (fVar 1) (fPart (fOp (lift2 addO) (fVar 4) (fC (.int 1)))) fNoPart))) fnext) (fseq (fIfS (fB (fOp (lift2 eqO) (fVar 5) (fC (.int 4)))) (fRet (fSlice (fVar 1) fNoPart (fPart (fOp (lift2 addO) (fC (.int 1)) (fVar 4))))) fnext) (fseq (fSet 6 (fOp (lift2 addO) (fSlice (fVar 1) (fPart (fOp (lift2 addO) (fVar 4) (fC (.int 1)))) (fPart (fOp (lift2 addO) (fVar 4) (fC (.int 2))))) (fSlice (fVar 1) (fPart (fVar 4)) (fPart (fOp (lift2 addO) (fVar 4) (fC (.int 1))))))) (fRet (fOp (lift2 addO) (fOp (lift2 addO) (fSlice (fVar 1) fNoPart (fPart (fVar 4))) (fVar 6)) (fSlice (fVar 1) (fPart (fOp (lift2 addO) (fVar 4) (fC (.int 2)))) fNoPart)))))))))))))
def F_law_bent_v17 : List R → Pw → FRes := runF 7 2 p_law_bent_v17
/-! bent words -/
theorem cut_pre {l : List Str} {i : Int} {k : Nat} (h : i = (k : Int)) : ∃ G : List Str, cutD (l.map .str) none (some i) = G.map .str ∧ (∀ y ∈ G, y ∈ l) ∧ G.length = min k l.length := by
  subst h
  refine ⟨_, cut_mapZ, fun y hy => List.mem_of_mem_drop (List.mem_of_mem_take hy), ?_⟩
  unfold cutZ
  rw [HT.sIx_nat, HT.sIx_none, List.length_take, List.length_drop]
  omega
theorem cut_suf {l : List Str} {i : Int} {k : Nat} (h : i = (k : Int)) : ∃ G : List Str, cutD (l.map .str) (some i) none = G.map .str ∧ (∀ y ∈ G, y ∈ l) ∧ G.length = l.length - min k l.length := by
  subst h
  refine ⟨_, cut_mapZ, fun y hy => List.mem_of_mem_drop (List.mem_of_mem_take hy), ?_⟩
  unfold cutZ
  rw [HT.sIx_nat, HT.sIx_none, List.length_take, List.length_drop]
  omega
theorem cut_midS {l : List Str} {i j : Int} {k m : Nat} (h : i = (k : Int)) (h2 : j = (m : Int)) : ∃ G : List Str, cutD (l.map .str) (some i) (some j) = G.map .str ∧ (∀ y ∈ G, y ∈ l) ∧ G.length = min m l.length - min k l.length := by
  subst h h2
  refine ⟨_, cut_mapZ, fun y hy => List.mem_of_mem_drop (List.mem_of_mem_take hy), ?_⟩
  unfold cutZ
  rw [HT.sIx_nat, HT.sIx_nat, List.length_take, List.length_drop]
  omega
structure WN (n : Nat) (ws : List Str) : Prop where
  w : ∀ y ∈ ws, Wd y
  nn : ws ≠ []
  l : ws.length ≤ n
def OAd : List Str := ["0", "7", "12", "/", "1-2", "0-0", "01", "", "-1", "1-", "+1", "three", "cross", "tree", "line", "x"]
theorem WN.ws {n : Nat} {ws : List Str} (h : WN n ws) (hn : n ≤ 980) : WS ws := ⟨h.w, h.nn, Nat.le_trans h.l hn⟩
theorem nine_tl {n : Nat} (hn : 1 ≤ n) : TL.tl (Txt.mul (Str.ofString "9") (n : Int)) = List.replicate n 57 := by
  rw [tl_mul hn, show TL.tl (Str.ofString "9") = [57] by decide]
  induction n with
  | zero => rfl
  | succ n ih =>
    rw [List.replicate_succ, List.flatten_cons, List.replicate_succ]
    by_cases h : n = 0
    · subst h; rfl
    · rw [ih (by omega)]; rfl
theorem Wd.dec {x : Str} (h : (decide (x.length ≤ 980) && decide (32 ∉ TL.tl x)) = true) : Wd x := by
  simp only [Bool.and_eq_true, decide_eq_true_eq] at h
  exact ⟨h.1, h.2⟩
theorem bent_words {pa : Addr} {w : Pw} {m : Int} {n : Nat} {ws : List Str} (h : LP pa w m) (hm : m < 2 ^ 36) (hw : WN n ws) (hn : n ≤ 970) :
    ∃ (ws' : List Str) (w' : Pw), F_law_bent_v17 [.raw (.ref pa), .val (.list (ws.map .str))] w = .ok (.new (ws'.map .str)) w' ∧ WN (n + 1) ws' ∧ LP pa w' (m + 10) := by
  obtain ⟨N30, h30⟩ : ∃ x, Txt.mul (Str.ofString "9") (30 : Int) = x := ⟨_, rfl⟩
  obtain ⟨N31, h31⟩ : ∃ x, Txt.mul (Str.ofString "9") (31 : Int) = x := ⟨_, rfl⟩
  have l9 : (Str.ofString "9").length = 1 := by decide
  have i30 : inT (Str.ofString "9") 30 := mulOk (n := 30) (by rw [l9]; omega) (by omega)
  have i31 : inT (Str.ofString "9") 31 := mulOk (n := 31) (by rw [l9]; omega) (by omega)
  have t30 : TL.tl N30 = List.replicate 30 57 := by rw [← h30]; exact nine_tl (n := 30) (by omega)
  have t31 : TL.tl N31 = List.replicate 31 57 := by rw [← h31]; exact nine_tl (n := 31) (by omega)
  have w30 : Wd N30 := ⟨by rw [wI_len, t30]; simp, by rw [t30]; simp⟩
  have w31 : Wd N31 := ⟨by rw [wI_len, t31]; simp, by rw [t31]; simp⟩
  have t1d : TL.tl (Str.ofString "1-") = [49, 45] := by decide
  have w1d : Wd (Str.ofString "1-" ++ N31) := ⟨by rw [wI_len, TL.tl_append, t31, t1d]; simp, by rw [TL.tl_append, t31, t1d]; simp⟩
  have ad1 : addO (.str (Str.ofString "1-")) (.str N31) = some (.val (.str (Str.ofString "1-" ++ N31))) := if_pos (size_le (by
    have : (Str.ofString "1-").length = 2 := by decide
    have : N31.length = 31 := by rw [wI_len, t31]; simp
    omega))
  obtain ⟨N1, hN1⟩ : ∃ x, Str.ofString "1-" ++ N31 = x := ⟨_, rfl⟩
  rw [hN1] at w1d ad1
  obtain ⟨OA, hOA⟩ : ∃ O : List Str, OAd = O := ⟨_, rfl⟩
  obtain ⟨OB, hOB⟩ : ∃ O : List Str, [N30, N31, N1, "1-02", "1-2-3", "//", "1/2", "\n", "1\n", "gone"] = O := ⟨_, rfl⟩
  have hA : [PyData.str (Str.ofString "0"), .str (Str.ofString "7"), .str (Str.ofString "12"), .str (Str.ofString "/"), .str (Str.ofString "1-2"), .str (Str.ofString "0-0"), .str (Str.ofString "01"), .str (Str.ofString ""), .str (Str.ofString "-1"), .str (Str.ofString "1-"), .str (Str.ofString "+1"), .str (Str.ofString "three"), .str (Str.ofString "cross"), .str (Str.ofString "tree"), .str (Str.ofString "line"), .str (Str.ofString "x")] = OA.map .str := by rw [← hOA]; rfl
  have hB : [PyData.str N30, .str N31, .str N1, .str (Str.ofString "1-02"), .str (Str.ofString "1-2-3"), .str (Str.ofString "//"), .str (Str.ofString "1/2"), .str (Str.ofString "\n"), .str (Str.ofString "1\n"), .str (Str.ofString "gone")] = OB.map .str := by rw [← hOB]; rfl
  have wO : ∀ y ∈ OA ++ OB, Wd y := fun y hy => by
    rcases List.mem_append.mp hy with hy | hy
    · rw [← hOA] at hy
      unfold OAd at hy
      simp only [List.mem_cons, List.not_mem_nil, or_false] at hy
      rcases hy with rfl | rfl | rfl | rfl | rfl | rfl | rfl | rfl | rfl | rfl | rfl | rfl | rfl | rfl | rfl | rfl <;> exact Wd.dec (by decide +kernel)
    · rw [← hOB] at hy
      simp only [List.mem_cons, List.not_mem_nil, or_false] at hy
      rcases hy with rfl | rfl | rfl | rfl | rfl | rfl | rfl | rfl | rfl | rfl
      · exact w30
      · exact w31
      · exact w1d
      all_goals exact Wd.dec (by decide +kernel)
  have lA : OA.length = 16 := by rw [← hOA]; rfl
  have lB : OB.length = 10 := by rw [← hOB]; rfl
  have adO := add_list8 (a := OA.map .str) (b := OB.map .str) (by rw [List.length_map, List.length_map]; omega)
  rw [← List.map_append] at adO
  obtain ⟨r1, w1, e1, m1, q1⟩ := draw_lit (b := 26) h (by omega) (by omega) (by omega)
  obtain ⟨r2, w2, e2, m2, q2⟩ := draw_lit (b := (ws.length : Int) + 1) q1 (by omega) (by have := hw.l; omega) (by omega)
  obtain ⟨r3, w3, e3, m3, q3⟩ := draw_lit (b := 6) q2 (by omega) (by omega) (by omega)
  obtain ⟨od, eo, mo⟩ := atI_some (xs := OA ++ OB) (i := (r1 : Int)) (by omega) (by rw [List.length_append]; omega)
  have io : ixO (.list ((OA ++ OB).map .str)) (.int (r1 : Int)) = some (.val (.str od)) := by
    show (atI ((OA ++ OB).map PyData.str) (r1 : Int)).map R.val = _
    rw [atI_mapF, eo]; rfl
  have wod := wO od mo
  have n1 : 0 < ws.length := List.length_pos_iff.mpr hw.nn
  have nl := hw.l
  have lo : lenO [.list (ws.map .str)] = some (.val (.int (ws.length : Int))) := by
    show some (R.val (.int ((ws.map PyData.str).length : Int))) = _
    rw [List.length_map]
  have lOO : lenO [.list ((OA ++ OB).map .str)] = some (.val (.int 26)) := by
    show some (R.val (.int (((OA ++ OB).map PyData.str).length : Int))) = _
    rw [List.length_map, List.length_append, lA, lB]
    rfl
  obtain ⟨P, cP, mP, lP⟩ := cut_pre (l := ws) (i := (r2 : Int)) (k := r2) rfl
  obtain ⟨Q, cQ, mQ, lQ⟩ := cut_suf (l := ws) (i := (r2 : Int)) (k := r2) rfl
  obtain ⟨Q1, cQ1, mQ1, lQ1⟩ := cut_suf (l := ws) (i := (r2 : Int) + 1) (k := r2 + 1) (by omega)
  obtain ⟨Q2, cQ2, mQ2, lQ2⟩ := cut_suf (l := ws) (i := (r2 : Int) + 2) (k := r2 + 2) (by omega)
  obtain ⟨M0, cM0, mM0, lM0⟩ := cut_midS (l := ws) (i := (r2 : Int)) (j := (r2 : Int) + 1) (k := r2) (m := r2 + 1) (by omega) (by omega)
  obtain ⟨M1, cM1, mM1, lM1⟩ := cut_midS (l := ws) (i := (r2 : Int) + 1) (j := (r2 : Int) + 2) (k := r2 + 1) (m := r2 + 2) (by omega) (by omega)
  obtain ⟨P1, cP1, mP1, lP1⟩ := cut_pre (l := ws) (i := 1 + (r2 : Int)) (k := 1 + r2) (by omega)
  have ap : ∀ A B : List Str, A.length + B.length ≤ 3000 → addO (.list (A.map .str)) (.list (B.map .str)) = some (.new ((A ++ B).map .str)) := fun A B h => by
    rw [List.map_append]
    exact add_list8 (by rw [List.length_map, List.length_map]; omega)
  have wn : ∀ A B C : List Str, (∀ y ∈ A, Wd y) → (∀ y ∈ B, Wd y) → (∀ y ∈ C, Wd y) → 0 < A.length + B.length + C.length → A.length + B.length + C.length ≤ n + 1 → WN (n + 1) (A ++ B ++ C) := fun A B C a b c h1 h2 => by
    refine ⟨fun y hy => ?_, fun z => ?_, by rw [List.length_append, List.length_append]; omega⟩
    · rw [List.mem_append, List.mem_append] at hy
      exact hy.elim (fun h => h.elim (a y) (b y)) (c y)
    · have := congrArg List.length z
      rw [List.length_append, List.length_append, List.length_nil] at this
      omega
  have g : ∀ {G : List Str}, (∀ y ∈ G, y ∈ ws) → ∀ y ∈ G, Wd y := fun h y hy => hw.w y (h y hy)
  obtain ⟨D, hD⟩ : ∃ D, ws.map PyData.str = D := ⟨_, rfl⟩
  obtain ⟨OD, hOD⟩ : ∃ D, (OA ++ OB).map PyData.str = D := ⟨_, rfl⟩
  obtain ⟨AD, hAD⟩ : ∃ D, OA.map PyData.str = D := ⟨_, rfl⟩
  obtain ⟨BD, hBD⟩ : ∃ D, OB.map PyData.str = D := ⟨_, rfl⟩
  rw [hD] at lo cP cQ cQ1 cQ2 cM0 cM1 cP1
  rw [hOD] at lOO io adO
  rw [hAD] at hA adO
  rw [hBD] at hB adO
  rw [hD]
  have lAD : AD.length = 16 := by rw [← hAD, List.length_map, lA]
  have lBD : BD.length = 10 := by rw [← hBD, List.length_map, lB]
  have s16 : leS 16 := size_le (by omega)
  have s10 : leS 10 := size_le (by omega)
  have s1 : leS 1 := size_le (by omega)
  have s0 : leS 0 := size_le (by omega)
  have v0 : inW 0 := inW_of (by omega) (by omega)
  have v1 : inW 1 := inW_of (by omega) (by omega)
  have way : r3 = 0 ∨ r3 = 1 ∨ r3 = 2 ∨ r3 = 3 ∨ r3 = 4 ∨ r3 = 5 := by omega
  rcases way with rfl | rfl | rfl | rfl | rfl | rfl
  · have a1 := ap P Q1 (by omega)
    have z0 : Wd (Str.ofString "") := Wd.dec (by decide +kernel)
    by_cases c : ws.length = 1
    · have c1 : (ws.length : Int) = 1 := by omega
      refine ⟨P ++ Q1 ++ [Str.ofString ""], w3, ?_, wn _ _ _ (g mP) (g mQ1) (fun y hy => by rw [List.mem_singleton.mp hy]; exact z0) (by simp) (by simp; omega), q3.mono (by omega)⟩
      have a2 := ap (P ++ Q1) [Str.ofString ""] (by rw [List.length_append]; simp; omega)
      rw [show ([Str.ofString ""].map PyData.str) = [.str (Str.ofString "")] from rfl] at a2
      unfold F_law_bent_v17 p_law_bent_v17
      simp only [x_runF]
      rw [c1] at lo
      rw [c1, show (1 : Int) + 1 = 2 from rfl] at e2
      simp -implicitDefEqProofs [cP, cQ1, a1, a2, v1, s1, hA, hB, h30, h31, i30, i31, ad1, s16, s10, lAD, lBD, adO, lOO, e1, io, lo, e2, e3, -x_addLL, -x_ixL, -List.map_append]
    · have c1 : ¬ (ws.length : Int) = 1 := by omega
      refine ⟨P ++ Q1 ++ [], w3, ?_, wn _ _ _ (g mP) (g mQ1) (fun y hy => by cases hy) (by simp; omega) (by simp; omega), q3.mono (by omega)⟩
      have a2 := ap (P ++ Q1) [] (by rw [List.length_append]; simp; omega)
      rw [List.map_nil] at a2
      unfold F_law_bent_v17 p_law_bent_v17
      simp only [x_runF]
      simp -implicitDefEqProofs [cP, cQ1, a1, a2, c1, v0, s0, s1, -List.append_nil, hA, hB, h30, h31, i30, i31, ad1, s16, s10, lAD, lBD, adO, lOO, e1, io, lo, e2, e3, -x_addLL, -x_ixL, -List.map_append]
  · refine ⟨P ++ M0 ++ Q, w3, ?_, wn _ _ _ (g mP) (g mM0) (g mQ) (by omega) (by omega), q3.mono (by omega)⟩
    have a1 := ap P M0 (by omega)
    have a2 := ap (P ++ M0) Q (by rw [List.length_append]; omega)
    unfold F_law_bent_v17 p_law_bent_v17
    simp only [x_runF]
    simp -implicitDefEqProofs [cP, cM0, cQ, a1, a2, hA, hB, h30, h31, i30, i31, ad1, s16, s10, lAD, lBD, adO, lOO, e1, io, lo, e2, e3, -x_addLL, -x_ixL, -List.map_append]
  · refine ⟨P ++ [od] ++ Q, w3, ?_, wn _ _ _ (g mP) (fun y hy => by rw [List.mem_singleton.mp hy]; exact wod) (g mQ) (by simp; omega) (by simp; omega), q3.mono (by omega)⟩
    have a1 := ap P [od] (by simp; omega)
    have a2 := ap (P ++ [od]) Q (by rw [List.length_append]; simp; omega)
    rw [show ([od].map PyData.str) = [.str od] from rfl] at a1
    unfold F_law_bent_v17 p_law_bent_v17
    simp only [x_runF]
    simp -implicitDefEqProofs [cP, cQ, a1, a2, s1, hA, hB, h30, h31, i30, i31, ad1, s16, s10, lAD, lBD, adO, lOO, e1, io, lo, e2, e3, -x_addLL, -x_ixL, -List.map_append]
  · refine ⟨P ++ [od] ++ Q1, w3, ?_, wn _ _ _ (g mP) (fun y hy => by rw [List.mem_singleton.mp hy]; exact wod) (g mQ1) (by simp; omega) (by simp; omega), q3.mono (by omega)⟩
    have a1 := ap P [od] (by simp; omega)
    have a2 := ap (P ++ [od]) Q1 (by rw [List.length_append]; simp; omega)
    rw [show ([od].map PyData.str) = [.str od] from rfl] at a1
    unfold F_law_bent_v17 p_law_bent_v17
    simp only [x_runF]
    simp -implicitDefEqProofs [cP, cQ1, a1, a2, s1, hA, hB, h30, h31, i30, i31, ad1, s16, s10, lAD, lBD, adO, lOO, e1, io, lo, e2, e3, -x_addLL, -x_ixL, -List.map_append]
  · refine ⟨P1, w3, ?_, ⟨g mP1, fun z => by rw [z] at lP1; simp at lP1; omega, by omega⟩, q3.mono (by omega)⟩
    unfold F_law_bent_v17 p_law_bent_v17
    simp only [x_runF]
    simp -implicitDefEqProofs [cP1, hA, hB, h30, h31, i30, i31, ad1, s16, s10, lAD, lBD, adO, lOO, e1, io, lo, e2, e3, -x_addLL, -x_ixL, -List.map_append]
  · refine ⟨P ++ (M1 ++ M0) ++ Q2, w3, ?_, wn _ _ _ (g mP) (fun y hy => (List.mem_append.mp hy).elim (g mM1 y) (g mM0 y)) (g mQ2) (by rw [List.length_append]; omega) (by rw [List.length_append]; omega), q3.mono (by omega)⟩
    have a0 := ap M1 M0 (by omega)
    have a1 := ap P (M1 ++ M0) (by rw [List.length_append]; omega)
    have a2 := ap (P ++ (M1 ++ M0)) Q2 (by rw [List.length_append, List.length_append]; omega)
    unfold F_law_bent_v17 p_law_bent_v17
    simp only [x_runF]
    simp -implicitDefEqProofs [cP, cM0, cM1, cQ2, a0, a1, a2, hA, hB, h30, h31, i30, i31, ad1, s16, s10, lAD, lBD, adO, lOO, e1, io, lo, e2, e3, -x_addLL, -x_ixL, -List.map_append]

end DL

noncomputable section
namespace DL
open PySem L2
def e_law_numbers_v2_1 : M R := fUser F_law_draw_v3 (fCons (fVar 0) (fCons (fOp (lift2 ixO) (fLst (fCons (fC (.int 10)) (fCons (fC (.int 10)) (fCons (fOp (lift2 powO) (fC (.int 10)) (fC (.int 29))) fNil)))) (fUser F_law_draw_v3 (fCons (fVar 0) (fCons (fC (.int 3)) fNil)))) fNil))
abbrev l_law_numbers_v2_1 : M R := fLc (fRng1 (pCons (fVar 1) fNil)) (bName 2) fYes (e_law_numbers_v2_1) [2]
def p_law_numbers_v2 : DSt → Flow := fRet (fLc (fRng1 (pCons (fVar 1) fNil)) (bName 2) fYes (e_law_numbers_v2_1) [2])
def F_law_numbers_v2 : List R → Pw → FRes := runF 3 2 p_law_numbers_v2
def e_law_drawn_v4_1 : M R := fUser F_law_numbers_v2 (fCons (fVar 0) (fCons (fC (.int 2)) fNil))
abbrev l_law_drawn_v4_1 : M R := fLc (fRng1 (pCons (fC (.int 3)) fNil)) (bName 2) fYes (e_law_drawn_v4_1) [2]
def e_law_drawn_v4_2 : M R := fUser F_law_numbers_v2 (fCons (fVar 0) (fCons (fC (.int 2)) fNil))
abbrev l_law_drawn_v4_2 : M R := fLc (fRng1 (pCons (fC (.int 2)) fNil)) (bName 2) fYes (e_law_drawn_v4_2) [2]
def e_law_drawn_v4_3 : M R := fCall tupleO (pCons (fUser F_law_numbers_v2 (fCons (fVar 0) (fCons (fC (.int 2)) fNil))) fNil)
abbrev l_law_drawn_v4_3 : M R := fLc (fRng1 (pCons (fUser F_law_draw_v3 (fCons (fVar 0) (fCons (fC (.int 10)) fNil))) fNil)) (bName 2) fYes (e_law_drawn_v4_3) [2]
def p_law_drawn_v4 : DSt → Flow := fseq (fSet 1 (fOp (lift2 ixO) (fLst (fCons (fC (.str "line")) (fCons (fC (.str "row")) (fCons (fC (.str "gone")) (fCons (fC (.str "order")) (fCons (fC (.str "ring")) (fCons (fC (.str "three")) (fCons (fC (.str "four")) (fCons (fC (.str "apart")) (fCons (fC (.str "cross")) (fCons (fC (.str "tree")) fNil))))))))))) (fUser F_law_draw_v3 (fCons (fVar 0) (fCons (fC (.int 10)) fNil))))) (fseq (fIfS (fB (fOp (lift2 eqO) (fVar 1) (fC (.str "three")))) (fRet (fTup (fCons (fVar 1) (fCons (fUser F_law_numbers_v2 (fCons (fVar 0) (fCons (fC (.int 3)) fNil))) (fCons (fUser F_law_numbers_v2 (fCons (fVar 0) (fCons (fC (.int 3)) fNil))) fNil))))) fnext) (fseq (fIfS (fB (fOp (lift2 eqO) (fVar 1) (fC (.str "four")))) (fRet (fTup (fCons (fVar 1) (fCons (fUser F_law_numbers_v2 (fCons (fVar 0) (fCons (fC (.int 2)) fNil))) (fCons (fUser F_law_numbers_v2 (fCons (fVar 0) (fCons (fC (.int 4)) fNil))) fNil))))) fnext) (fseq (fIfS (fB (fOp (lift2 eqO) (fVar 1) (fC (.str "apart")))) (fRet (fTup (fCons (fVar 1) (fCons (fUser F_law_numbers_v2 (fCons (fVar 0) (fCons (fC (.int 3)) fNil))) (fCons (fLc (fRng1 (pCons (fC (.int 3)) fNil)) (bName 2) fYes (e_law_drawn_v4_1) [2]) fNil))))) fnext) (fseq (fIfS (fB (fOp (lift2 eqO) (fVar 1) (fC (.str "cross")))) (fRet (fTup (fCons (fVar 1) (fCons (fUser F_law_numbers_v2 (fCons (fVar 0) (fCons (fC (.int 4)) fNil))) (fCons (fLc (fRng1 (pCons (fC (.int 2)) fNil)) (bName 2) fYes (e_law_drawn_v4_2) [2]) fNil))))) fnext) (fseq (fIfS (fB (fOp (lift2 eqO) (fVar 1) (fC (.str "tree")))) (fRet (fTup (fCons (fVar 1) (fCons (fLc (fRng1 (pCons (fUser F_law_draw_v3 (fCons (fVar 0) (fCons (fC (.int 10)) fNil))) fNil)) (bName 2) fYes (e_law_drawn_v4_3) [2]) fNil)))) fnext) (fRet (fTup (fCons (fVar 1) (fCons (fUser F_law_numbers_v2 (fCons (fVar 0) (fCons (fOp (lift2 addO) (fC (.int 1)) (fUser F_law_draw_v3 (fCons (fVar 0) (fCons (fOp (lift2 ixO) (fLst (fCons (fC (.int 10)) (fCons (fC (.int 30)) fNil))) (fUser F_law_draw_v3 (fCons (fVar 0) (fCons (fC (.int 2)) fNil)))) fNil)))) fNil))) fNil)))))))))
def F_law_drawn_v4 : List R → Pw → FRes := runF 3 1 p_law_drawn_v4
/-! drawn papers -/
def NumOk (x : Int) : Prop := 0 ≤ x ∧ x < 10 ^ 29
theorem numbs_ok {pa : Addr} {w : Pw} {m : Int} {n : Nat} (h : LP pa w m) (hm : m < 2 ^ 36) (hn : n ≤ 30) : ∃ (ns : List Int) (w' : Pw), F_law_numbers_v2 [.raw (.ref pa), .val (.int ((n : Nat) : Int))] w = .ok (.new (ns.map .int)) w' ∧ ns.length = n ∧ (∀ x ∈ ns, NumOk x) ∧ LP pa w' (m + 100) := by
  obtain ⟨out, s', e, ns, w', rfl, ln, hx, q, rfl⟩ := lc_s (s := ⟨[.raw (.ref pa), .val (.int ((n : Nat) : Int)), .no], w⟩) (s0 := ⟨[.raw (.ref pa), .val (.int ((n : Nat) : Int)), .no], w⟩) (fi := fRng1 (pCons (fVar 1) fNil)) (b := bName 2) (ft := fYes) (fe := e_law_numbers_v2_1) (vs := [2]) (f := fun (k : Nat) => PyData.int (k : Int)) (l := List.range n)
    (fun j acc s => ∃ (ns : List Int) (w' : Pw), acc = ns.map .int ∧ ns.length = j ∧ (∀ x ∈ ns, NumOk x) ∧ LP pa w' (m + 2 * j) ∧ s = ⟨[.raw (.ref pa), .val (.int ((n : Nat) : Int)), .no], w'⟩)
    (by
      have hw : inB (n : Int) := inB_of (by omega) (by omega)
      simp -implicitDefEqProofs [hw, range_D]) (by simp; omega) ⟨[], w, rfl, rfl, by simp, h.mono (by simp), rfl⟩ (by
      rintro j k hj acc s ⟨ns, w', rfl, ln, hx, q, rfl⟩
      have jl : j < n := by have := (List.getElem?_eq_some_iff.mp hj).1; simpa using this
      obtain ⟨r, w1, e1, m1, q1⟩ := draw_lit (b := 3) q (by omega) (by omega) (by omega)
      obtain ⟨b, hb, b0, b1⟩ : ∃ b : Int, ixO (.list [.int 10, .int 10, .int 100000000000000000000000000000]) (.int (r : Int)) = some (.val (.int b)) ∧ 0 < b ∧ b ≤ 10 ^ 29 := by
        have : r = 0 ∨ r = 1 ∨ r = 2 := by omega
        rcases this with rfl | rfl | rfl
        · exact ⟨10, rfl, by omega, by omega⟩
        · exact ⟨10, rfl, by omega, by omega⟩
        · exact ⟨100000000000000000000000000000, rfl, by omega, by omega⟩
      obtain ⟨x, w2, e2, m2, q2⟩ := draw_lit (b := b) q1 b0 (by omega) (by omega)
      have s3 : leS 3 := size_le (by omega)
      have pw : powO (.int 10) (.int 29) = some (.val (.int 100000000000000000000000000000)) := by
        rw [x_pow, if_pos ⟨by decide, by unfold leP; decide, by unfold lgP; decide⟩]
        rfl
      refine ⟨rfl, ⟨[.raw (.ref pa), .val (.int ((n : Nat) : Int)), .val (.int ((k : Nat) : Int))], w'⟩, rfl, true, _, rfl, fun z => (by cases z), fun _ => ⟨.int (x : Int), ⟨[.raw (.ref pa), .val (.int ((n : Nat) : Int)), .val (.int ((k : Nat) : Int))], w2⟩, ?_, ns ++ [(x : Int)], w2, by simp, by simp [ln], ?_, q2.mono (by omega), rfl⟩⟩
      · unfold e_law_numbers_v2_1
        simp -implicitDefEqProofs [e1, pw, hb, e2, s3, -x_ixL]
      · intro y hy
        rcases List.mem_append.mp hy with hy | hy
        · exact hx y hy
        · rw [List.mem_singleton.mp hy]
          exact ⟨by omega, by omega⟩)
  rw [List.length_range] at ln q
  refine ⟨ns, w', ?_, ln, hx, q.mono (by omega)⟩
  unfold F_law_numbers_v2 p_law_numbers_v2
  simp only [x_runF]
  simp -implicitDefEqProofs [e]
inductive PD : PyData → Prop
  | list {w : Str} {ns : List Int} : w ∈ LS → 0 < ns.length → ns.length ≤ 30 → (∀ x ∈ ns, NumOk x) → PD (.tuple [.str w, .list (ns.map .int)])
  | two {w : Str} {a b : List Int} : (w = Str.ofString "three" ∨ w = Str.ofString "four") → a.length ≤ 4 → b.length ≤ 4 → (∀ x ∈ a, NumOk x) → (∀ x ∈ b, NumOk x) → PD (.tuple [.str w, .list (a.map .int), .list (b.map .int)])
  | many {w : Str} {a : List Int} {ps : List (List Int)} : (w = Str.ofString "apart" ∨ w = Str.ofString "cross") → a.length ≤ 4 → ps.length ≤ 3 → (∀ x ∈ a, NumOk x) → (∀ p ∈ ps, p.length ≤ 2 ∧ ∀ x ∈ p, NumOk x) → PD (.tuple [.str w, .list (a.map .int), .list (ps.map llD)])
  | tree {ts : List (Int × Int)} : ts.length ≤ 9 → (∀ t ∈ ts, NumOk t.1 ∧ NumOk t.2) → PD (.tuple [.str (Str.ofString "tree"), .list (ts.map ppT)])
theorem pairs_ok {pa : Addr} {w : Pw} {m : Int} {n : Nat} {wd : Sl} (h : LP pa w m) (hm : m + 2000 < 2 ^ 36) (hn : n ≤ 3) (fe : M R) (hfe : fe = fUser F_law_numbers_v2 (fCons (fVar 0) (fCons (fC (.int 2)) fNil))) :
    ∃ (ps : List (List Int)) (w' : Pw), fLc (fRng1 (pCons (fC (.int (n : Int))) fNil)) (bName 2) fYes fe [2] ⟨[.raw (.ref pa), wd, .no], w⟩ = .ok (.new (ps.map llD)) ⟨[.raw (.ref pa), wd, .no], w'⟩ ∧ ps.length = n ∧ (∀ p ∈ ps, p.length ≤ 2 ∧ ∀ x ∈ p, NumOk x) ∧ LP pa w' (m + 300) := by
  subst hfe
  obtain ⟨out, s', e, ps, w', rfl, ln, hx, q, rfl⟩ := lc_s (s := ⟨[.raw (.ref pa), wd, .no], w⟩) (s0 := ⟨[.raw (.ref pa), wd, .no], w⟩) (fi := fRng1 (pCons (fC (.int (n : Int))) fNil)) (b := bName 2) (ft := fYes) (fe := fUser F_law_numbers_v2 (fCons (fVar 0) (fCons (fC (.int 2)) fNil))) (vs := [2]) (f := fun (k : Nat) => PyData.int (k : Int)) (l := List.range n)
    (fun j acc s => ∃ (ps : List (List Int)) (w' : Pw), acc = ps.map llD ∧ ps.length = j ∧ (∀ p ∈ ps, p.length ≤ 2 ∧ ∀ x ∈ p, NumOk x) ∧ LP pa w' (m + 100 * j) ∧ s = ⟨[.raw (.ref pa), wd, .no], w'⟩)
    (by
      have hw : inB (n : Int) := inB_of (by omega) (by omega)
      simp -implicitDefEqProofs [hw, range_D]) (by simp; omega) ⟨[], w, rfl, rfl, by simp, h.mono (by simp), rfl⟩ (by
      rintro j k hj acc s ⟨ps, w', rfl, ln, hx, q, rfl⟩
      have jl : j < n := by have := (List.getElem?_eq_some_iff.mp hj).1; simpa using this
      obtain ⟨ns, w1, e1, l1, h1, q1⟩ := numbs_ok (n := 2) q (by omega) (by omega)
      have e1' : F_law_numbers_v2 [.raw (.ref pa), .val (.int (2))] w' = .ok (.new (ns.map .int)) w1 := e1
      refine ⟨by cases wd <;> rfl, ⟨[.raw (.ref pa), wd, .val (.int ((k : Nat) : Int))], w'⟩, rfl, true, _, rfl, fun z => (by cases z), fun _ => ⟨llD ns, ⟨[.raw (.ref pa), wd, .val (.int ((k : Nat) : Int))], w1⟩, ?_, ps ++ [ns], w1, by simp, by simp [ln], ?_, q1.mono (by omega), rfl⟩⟩
      · simp -implicitDefEqProofs [e1', llD]
      · intro y hy
        rcases List.mem_append.mp hy with hy | hy
        · exact hx y hy
        · rw [List.mem_singleton.mp hy]
          exact ⟨by omega, h1⟩)
  rw [List.length_range] at ln q
  exact ⟨ps, w', e, ln, hx, q.mono (by omega)⟩
theorem treeD_ok {pa : Addr} {w : Pw} {m : Int} {wd : Sl} (h : LP pa w m) (hm : m + 2000 < 2 ^ 36) :
    ∃ (ts : List (Int × Int)) (w' : Pw), l_law_drawn_v4_3 ⟨[.raw (.ref pa), wd, .no], w⟩ = .ok (.new (ts.map ppT)) ⟨[.raw (.ref pa), wd, .no], w'⟩ ∧ ts.length ≤ 9 ∧ (∀ t ∈ ts, NumOk t.1 ∧ NumOk t.2) ∧ LP pa w' (m + 1000) := by
  obtain ⟨n, w0, e0, m0, q0⟩ := draw_lit (b := 10) h (by omega) (by omega) (by omega)
  obtain ⟨out, s', e, ps, w', rfl, ln, hx, q, rfl⟩ := lc_s (s := ⟨[.raw (.ref pa), wd, .no], w⟩) (s0 := ⟨[.raw (.ref pa), wd, .no], w0⟩) (fi := fRng1 (pCons (fUser F_law_draw_v3 (fCons (fVar 0) (fCons (fC (.int 10)) fNil))) fNil)) (b := bName 2) (ft := fYes) (fe := e_law_drawn_v4_3) (vs := [2]) (f := fun (k : Nat) => PyData.int (k : Int)) (l := List.range n)
    (fun j acc s => ∃ (ps : List (Int × Int)) (w' : Pw), acc = ps.map ppT ∧ ps.length = j ∧ (∀ t ∈ ps, NumOk t.1 ∧ NumOk t.2) ∧ LP pa w' (m + 1 + 100 * j) ∧ s = ⟨[.raw (.ref pa), wd, .no], w'⟩)
    (by
      have hw : inB (n : Int) := inB_of (by omega) (by omega)
      simp -implicitDefEqProofs [e0, hw, range_D]) (by simp; omega) ⟨[], w0, rfl, rfl, by simp, q0.mono (by simp), rfl⟩ (by
      rintro j k hj acc s ⟨ps, w', rfl, ln, hx, q, rfl⟩
      have jl : j < n := by have := (List.getElem?_eq_some_iff.mp hj).1; simpa using this
      obtain ⟨ns, w1, e1, l1, h1, q1⟩ := numbs_ok (n := 2) q (by omega) (by omega)
      obtain ⟨a, b, rfl⟩ : ∃ a b, ns = [a, b] := by
        match ns, l1 with
        | [a, b], _ => exact ⟨a, b, rfl⟩
      have e1' : F_law_numbers_v2 [.raw (.ref pa), .val (.int (2))] w' = .ok (.new [.int a, .int b]) w1 := e1
      refine ⟨by cases wd <;> rfl, ⟨[.raw (.ref pa), wd, .val (.int ((k : Nat) : Int))], w'⟩, rfl, true, _, rfl, fun z => (by cases z), fun _ => ⟨ppT (a, b), ⟨[.raw (.ref pa), wd, .val (.int ((k : Nat) : Int))], w1⟩, ?_, ps ++ [(a, b)], w1, by simp, by simp [ln], ?_, q1.mono (by omega), rfl⟩⟩
      · unfold e_law_drawn_v4_3
        simp -implicitDefEqProofs [e1', ppT]
      · intro y hy
        rcases List.mem_append.mp hy with hy | hy
        · exact hx y hy
        · rw [List.mem_singleton.mp hy]
          exact ⟨h1 a (by simp), h1 b (by simp)⟩)
  rw [List.length_range] at ln q
  exact ⟨ps, w', e, by omega, hx, q.mono (by omega)⟩
theorem drawn_ok {pa : Addr} {w : Pw} {m : Int} (h : LP pa w m) (hm : m + 3000 < 2 ^ 36) : ∃ (d : PyData) (w' : Pw), F_law_drawn_v4 [.raw (.ref pa)] w = .ok (.val d) w' ∧ PD d ∧ LP pa w' (m + 3000) := by
  obtain ⟨r, w1, e1, m1, q1⟩ := draw_lit (b := 10) h (by omega) (by omega) (by omega)
  obtain ⟨O, hO⟩ : ∃ O, [PyData.str (Str.ofString "line"), .str (Str.ofString "row"), .str (Str.ofString "gone"), .str (Str.ofString "order"), .str (Str.ofString "ring"), .str (Str.ofString "three"), .str (Str.ofString "four"), .str (Str.ofString "apart"), .str (Str.ofString "cross"), .str (Str.ofString "tree")] = O := ⟨_, rfl⟩
  have lO : O.length = 10 := by rw [← hO]; rfl
  have s10 : leS 10 := size_le (by omega)
  have s2 : leS 2 := size_le (by omega)
  have s3 : leS 3 := size_le (by omega)
  have io : ∀ {x : Str}, O[r]? = some (.str x) → ixO (.list O) (.int (r : Int)) = some (.val (.str x)) := fun h => by
    show (atI O (r : Int)).map R.val = _
    rw [atI_nat, h]; rfl
  by_cases c5 : r < 5
  · obtain ⟨x, hx, mx⟩ : ∃ x : Str, O[r]? = some (.str x) ∧ x ∈ LS := by
      rw [← hO]
      have : r = 0 ∨ r = 1 ∨ r = 2 ∨ r = 3 ∨ r = 4 := by omega
      rcases this with rfl | rfl | rfl | rfl | rfl <;> exact ⟨_, rfl, by decide +kernel⟩
    obtain ⟨k, w2, e2, m2, q2⟩ := draw_lit (b := 2) q1 (by omega) (by omega) (by omega)
    obtain ⟨b, hb, b0, b1⟩ : ∃ b : Int, ixO (.list [.int 10, .int 30]) (.int (k : Int)) = some (.val (.int b)) ∧ 0 < b ∧ b ≤ 30 := by
      have : k = 0 ∨ k = 1 := by omega
      rcases this with rfl | rfl
      · exact ⟨10, rfl, by omega, by omega⟩
      · exact ⟨30, rfl, by omega, by omega⟩
    obtain ⟨j, w3, e3, m3, q3⟩ := draw_lit (b := b) q2 b0 (by omega) (by omega)
    obtain ⟨ns, w4, e4, l4, h4, q4⟩ := numbs_ok (n := 1 + j) q3 (by omega) (by omega)
    have ec : ((1 + j : Nat) : Int) = (1 : Int) + (j : Int) := by omega
    rw [ec] at e4
    have i1 := io hx
    have n1 : ¬ x = Str.ofString "three" := by rintro rfl; revert mx; decide +kernel
    have n2 : ¬ x = Str.ofString "four" := by rintro rfl; revert mx; decide +kernel
    have n3 : ¬ x = Str.ofString "apart" := by rintro rfl; revert mx; decide +kernel
    have n4 : ¬ x = Str.ofString "cross" := by rintro rfl; revert mx; decide +kernel
    have n5 : ¬ x = Str.ofString "tree" := by rintro rfl; revert mx; decide +kernel
    refine ⟨.tuple [.str x, .list (ns.map .int)], w4, ?_, .list mx (by omega) (by omega) h4, q4.mono (by omega)⟩
    obtain ⟨ND, hND⟩ : ∃ D, ns.map PyData.int = D := ⟨_, rfl⟩
    rw [hND] at e4 ⊢
    unfold F_law_drawn_v4 p_law_drawn_v4
    simp only [x_runF]
    simp -implicitDefEqProofs [s10, hO, lO, e1, i1, n1, n2, n3, n4, n5, e2, hb, e3, e4, s2, -x_ixL]
  · have : r = 5 ∨ r = 6 ∨ r = 7 ∨ r = 8 ∨ r = 9 := by omega
    have n65 : ¬ Str.ofString "four" = Str.ofString "three" := by decide +kernel
    have n75 : ¬ Str.ofString "apart" = Str.ofString "three" := by decide +kernel
    have n76 : ¬ Str.ofString "apart" = Str.ofString "four" := by decide +kernel
    have n85 : ¬ Str.ofString "cross" = Str.ofString "three" := by decide +kernel
    have n86 : ¬ Str.ofString "cross" = Str.ofString "four" := by decide +kernel
    have n87 : ¬ Str.ofString "cross" = Str.ofString "apart" := by decide +kernel
    have n95 : ¬ Str.ofString "tree" = Str.ofString "three" := by decide +kernel
    have n96 : ¬ Str.ofString "tree" = Str.ofString "four" := by decide +kernel
    have n97 : ¬ Str.ofString "tree" = Str.ofString "apart" := by decide +kernel
    have n98 : ¬ Str.ofString "tree" = Str.ofString "cross" := by decide +kernel
    rcases this with rfl | rfl | rfl | rfl | rfl
    · have i1 : ixO (.list O) (.int 5) = some (.val (.str (Str.ofString "three"))) := io (x := Str.ofString "three") (by rw [← hO]; rfl)
      obtain ⟨a, w2, e2, l2, h2, q2⟩ := numbs_ok (n := 3) q1 (by omega) (by omega)
      obtain ⟨b, w3, e3, l3, h3, q3⟩ := numbs_ok (n := 3) q2 (by omega) (by omega)
      have e2' : F_law_numbers_v2 [.raw (.ref pa), .val (.int (3))] w1 = .ok (.new (a.map .int)) w2 := e2
      have e3' : F_law_numbers_v2 [.raw (.ref pa), .val (.int (3))] w2 = .ok (.new (b.map .int)) w3 := e3
      refine ⟨.tuple [.str (Str.ofString "three"), .list (a.map .int), .list (b.map .int)], w3, ?_, .two (.inl rfl) (by omega) (by omega) h2 h3, q3.mono (by omega)⟩
      unfold F_law_drawn_v4 p_law_drawn_v4
      simp only [x_runF]
      simp -implicitDefEqProofs [s10, hO, lO, e1, i1, e2', e3', s3, -x_ixL]
    · have i1 : ixO (.list O) (.int 6) = some (.val (.str (Str.ofString "four"))) := io (x := Str.ofString "four") (by rw [← hO]; rfl)
      obtain ⟨a, w2, e2, l2, h2, q2⟩ := numbs_ok (n := 2) q1 (by omega) (by omega)
      obtain ⟨b, w3, e3, l3, h3, q3⟩ := numbs_ok (n := 4) q2 (by omega) (by omega)
      have e2' : F_law_numbers_v2 [.raw (.ref pa), .val (.int (2))] w1 = .ok (.new (a.map .int)) w2 := e2
      have e3' : F_law_numbers_v2 [.raw (.ref pa), .val (.int (4))] w2 = .ok (.new (b.map .int)) w3 := e3
      refine ⟨.tuple [.str (Str.ofString "four"), .list (a.map .int), .list (b.map .int)], w3, ?_, .two (.inr rfl) (by omega) (by omega) h2 h3, q3.mono (by omega)⟩
      unfold F_law_drawn_v4 p_law_drawn_v4
      simp only [x_runF]
      simp -implicitDefEqProofs [s10, hO, lO, e1, i1, n65, e2', e3', s3, -x_ixL]
    · have i1 : ixO (.list O) (.int 7) = some (.val (.str (Str.ofString "apart"))) := io (x := Str.ofString "apart") (by rw [← hO]; rfl)
      obtain ⟨a, w2, e2, l2, h2, q2⟩ := numbs_ok (n := 3) q1 (by omega) (by omega)
      obtain ⟨b, w3, e3, l3, h3, q3⟩ := pairs_ok (n := 3) (wd := .val (.str (Str.ofString "apart"))) q2 (by omega) (by omega) e_law_drawn_v4_1 rfl
      have e2' : F_law_numbers_v2 [.raw (.ref pa), .val (.int (3))] w1 = .ok (.new (a.map .int)) w2 := e2
      have e3' : l_law_drawn_v4_1 ⟨[.raw (.ref pa), .val (.str (Str.ofString "apart")), .no], w2⟩ = .ok (.new (b.map llD)) ⟨[.raw (.ref pa), .val (.str (Str.ofString "apart")), .no], w3⟩ := e3
      refine ⟨.tuple [.str (Str.ofString "apart"), .list (a.map .int), .list (b.map llD)], w3, ?_, .many (.inl rfl) (by omega) (by omega) h2 h3, q3.mono (by omega)⟩
      unfold l_law_drawn_v4_1 at e3'
      unfold F_law_drawn_v4 p_law_drawn_v4
      simp only [x_runF]
      simp -implicitDefEqProofs [s10, hO, lO, e1, i1, n75, n76, e2', e3', s3, -x_ixL]
    · have i1 : ixO (.list O) (.int 8) = some (.val (.str (Str.ofString "cross"))) := io (x := Str.ofString "cross") (by rw [← hO]; rfl)
      obtain ⟨a, w2, e2, l2, h2, q2⟩ := numbs_ok (n := 4) q1 (by omega) (by omega)
      obtain ⟨b, w3, e3, l3, h3, q3⟩ := pairs_ok (n := 2) (wd := .val (.str (Str.ofString "cross"))) q2 (by omega) (by omega) e_law_drawn_v4_2 rfl
      have e2' : F_law_numbers_v2 [.raw (.ref pa), .val (.int (4))] w1 = .ok (.new (a.map .int)) w2 := e2
      have e3' : l_law_drawn_v4_2 ⟨[.raw (.ref pa), .val (.str (Str.ofString "cross")), .no], w2⟩ = .ok (.new (b.map llD)) ⟨[.raw (.ref pa), .val (.str (Str.ofString "cross")), .no], w3⟩ := e3
      refine ⟨.tuple [.str (Str.ofString "cross"), .list (a.map .int), .list (b.map llD)], w3, ?_, .many (.inr rfl) (by omega) (by omega) h2 h3, q3.mono (by omega)⟩
      unfold l_law_drawn_v4_2 at e3'
      unfold F_law_drawn_v4 p_law_drawn_v4
      simp only [x_runF]
      simp -implicitDefEqProofs [s10, hO, lO, e1, i1, n85, n86, n87, e2', e3', s3, -x_ixL]
    · have i1 : ixO (.list O) (.int 9) = some (.val (.str (Str.ofString "tree"))) := io (x := Str.ofString "tree") (by rw [← hO]; rfl)
      obtain ⟨b, w3, e3, l3, h3, q3⟩ := treeD_ok (wd := .val (.str (Str.ofString "tree"))) q1 (by omega)
      refine ⟨.tuple [.str (Str.ofString "tree"), .list (b.map ppT)], w3, ?_, .tree l3 h3, q3.mono (by omega)⟩
      unfold l_law_drawn_v4_3 at e3
      unfold F_law_drawn_v4 p_law_drawn_v4
      simp only [x_runF]
      simp -implicitDefEqProofs [s10, hO, lO, e1, i1, n95, n96, n97, n98, e3, s2, -x_ixL]

end DL

noncomputable section
namespace DL
open PySem L2
def e_law_text_1 : M R := fOp (lift2 addO) (fOp (lift2 addO) (fStr (fVar 2)) (fC (.str "-"))) (fStr (fVar 3))
abbrev l_law_text_1 : M R := fLc (fLstI (fOp (lift2 ixO) (fVar 0) (fC (.int 1)))) (bTup 2 (bCons (bName 2) (bCons (bName 3) bNil))) fYes (e_law_text_1) [2, 3]
def e_law_text_2 : M R := fStr (fVar 5)
abbrev l_law_text_2 : M R := fLc (fLstI (fVar 4)) (bName 5) fYes (e_law_text_2) [5]
def e_law_text_3 : M R := fJoin (fC (.str " ")) (fLc (fLstI (fVar 4)) (bName 5) fYes (e_law_text_2) [5])
abbrev l_law_text_3 : M R := fLc (fLstI (fVar 1)) (bName 4) fYes (e_law_text_3) [4]
def p_law_text : DSt → Flow := fseq (fIfS (fB (fOp (lift2 eqO) (fOp (lift2 ixO) (fVar 0) (fC (.int 0))) (fC (.str "tree")))) (fRet (fJoin (fC (.str " ")) (fOp (lift2 addO) (fLst (fCons (fOp (lift2 ixO) (fVar 0) (fC (.int 0))) fNil)) (fLc (fLstI (fOp (lift2 ixO) (fVar 0) (fC (.int 1)))) (bTup 2 (bCons (bName 2) (bCons (bName 3) bNil))) fYes (e_law_text_1) [2, 3])))) fnext) (fseq (fSet 1 (fCall listO (pCons (fSlice (fVar 0) (fPart (fC (.int 1))) fNoPart) fNil))) (fseq (fIfS (fB (fOp (lift2 inO) (fOp (lift2 ixO) (fVar 0) (fC (.int 0))) (fLst (fCons (fC (.str "apart")) (fCons (fC (.str "cross")) fNil))))) (fSet 1 (fOp (lift2 addO) (fLst (fCons (fOp (lift2 ixO) (fVar 0) (fC (.int 1))) fNil)) (fOp (lift2 ixO) (fVar 0) (fC (.int 2))))) fnext) (fRet (fOp (lift2 addO) (fOp (lift2 addO) (fOp (lift2 ixO) (fVar 0) (fC (.int 0))) (fC (.str " "))) (fJoin (fC (.str " / ")) (fLc (fLstI (fVar 1)) (bName 4) fYes (e_law_text_3) [4]))))))
def F_law_text : List R → Pw → FRes := runF 6 1 p_law_text
/-! a drawn paper's text -/
def joinT (l : List Int) : Str := Txt.join (Str.ofString " ") (l.map wI)
theorem NumOk.w {x : Int} (h : NumOk x) : 0 ≤ x ∧ x < 10 ^ 30 := ⟨h.1, by have := h.2; omega⟩
theorem joinT_len {l : List Int} (h : ∀ x ∈ l, NumOk x) : (joinT l).length ≤ l.length * 31 := by
  rw [wI_len]
  unfold joinT
  rw [TL.join_eq, TL.tl_join, tl_sp]
  have := len_joinL [32] (k := 30) (ps := (l.map wI).map TL.tl) fun p hp => by
    rw [List.map_map] at hp
    obtain ⟨x, hx, rfl⟩ := List.mem_map.mp hp
    show (TL.tl (wI x)).length ≤ 30
    rw [← wI_len]
    exact (wI_le (h x hx).w).1
  rw [List.length_map, List.length_map] at this
  exact this
theorem strs_mapV {l : List Str} : strsD (l.map .str) = some l := by
  induction l with
  | nil => rfl
  | cons a l ih => simp [strsD, ih]
theorem pieces_ok {d : PyData} {LL : List (List Int)} {w : Pw} (h : ∀ l ∈ LL, l.length ≤ 30 ∧ ∀ x ∈ l, NumOk x) (hl : LL.length ≤ 10) :
    l_law_text_3 ⟨[.val d, .own (LL.map llD), .no, .no, .no, .no], w⟩ = .ok (.new ((LL.map joinT).map .str)) ⟨[.val d, .val (.list (LL.map llD)), .no, .no, .no, .no], w⟩ := by
  rw [List.map_map]
  refine lc_all (fun l : List Int => ⟨[.val d, .val (.list (LL.map llD)), .no, .no, .val (llD l), .no], w⟩) _ (f := llD) (l := LL) (by simp -implicitDefEqProofs) (by omega) rfl (fun a _ => by rfl) (fun a _ => by rfl) (fun l hm => ?_)
  obtain ⟨h1, h2⟩ := h l hm
  have cl : l_law_text_2 ⟨[.val d, .val (.list (LL.map llD)), .no, .no, .val (llD l), .no], w⟩ = .ok (.new ((l.map wI).map .str)) ⟨[.val d, .val (.list (LL.map llD)), .no, .no, .val (llD l), .no], w⟩ := by
    rw [List.map_map]
    refine lc_all (fun x : Int => ⟨[.val d, .val (.list (LL.map llD)), .no, .no, .val (llD l), .val (.int (x))], w⟩) _ (f := .int) (l := l) (by simp -implicitDefEqProofs [llD]) (by omega) rfl (fun a _ => by rfl) (fun a _ => by rfl) (fun x hx => ?_)
    have so : strO (.int x) = some (.val (.str (wI x))) := if_pos (lg_ok (h2 x hx).w)
    unfold e_law_text_2
    simp -implicitDefEqProofs [so]
  have lj : leJ (Str.ofString " ") (l.map wI) := leJ_of (n := 30) (k := 30) (by decide) (by rw [List.length_map]; exact h1) (fun y hy => by
    obtain ⟨x, hx, rfl⟩ := List.mem_map.mp hy
    exact (wI_le (h2 x hx).w).1) (by omega)
  have st := strs_mapV (l := l.map wI)
  obtain ⟨RW, hRW⟩ : ∃ RW, (l.map wI).map PyData.str = RW := ⟨_, rfl⟩
  rw [hRW] at cl st
  unfold l_law_text_2 at cl
  unfold e_law_text_3
  simp -implicitDefEqProofs [cl, st, lj, joinT]
def TextS (d : PyData) : Prop := ∀ w : Pw, ∃ x : Str, F_law_text [.val d] w = .ok (.val (.str x)) w ∧ x.length ≤ 950
theorem slash_len {LL : List (List Int)} {k n : Nat} (h : ∀ l ∈ LL, (joinT l).length ≤ k) (hn : LL.length ≤ n) (hk : n * (k + 3) ≤ 940) : (Txt.join (Str.ofString " / ") (LL.map joinT)).length ≤ 940 := by
  rw [wI_len, TL.join_eq, TL.tl_join]
  have t : (TL.tl (Str.ofString " / ")).length = 3 := by decide
  have := len_joinL (TL.tl (Str.ofString " / ")) (k := k) (ps := (LL.map joinT).map TL.tl) fun p hp => by
    rw [List.map_map] at hp
    obtain ⟨l, hl, rfl⟩ := List.mem_map.mp hp
    show (TL.tl (joinT l)).length ≤ k
    rw [← wI_len]
    exact h l hl
  rw [List.length_map, List.length_map, t] at this
  exact Nat.le_trans this (Nat.le_trans (Nat.mul_le_mul_right _ hn) hk)
theorem leJ3 {LL : List (List Int)} (h : ∀ l ∈ LL, (joinT l).length ≤ 930) (hn : LL.length ≤ 10) : leJ (Str.ofString " / ") (LL.map joinT) := by
  have t : (Str.ofString " / ").length = 3 := by decide
  unfold leJ
  rw [List.length_map, List.map_map, t]
  have := sum_le (l := LL.map ((fun x : Str => x.length) ∘ joinT)) (k := 930) fun x hx => by
    obtain ⟨l, hl, rfl⟩ := List.mem_map.mp hx
    exact h l hl
  rw [List.length_map] at this
  omega
theorem text_end {wd : Str} {LL : List (List Int)} {k n : Nat} (hw : wd.length ≤ 5) (h : ∀ l ∈ LL, l.length ≤ 30 ∧ ∀ x ∈ l, NumOk x) (hk1 : ∀ l ∈ LL, l.length * 31 ≤ k) (hn : LL.length ≤ n) (hn10 : n ≤ 10) (hk : n * (k + 3) ≤ 940) :
    ∃ x : Str, addO (.str wd) (.str (Str.ofString " ")) = some (.val (.str (wd ++ Str.ofString " "))) ∧ addO (.str (wd ++ Str.ofString " ")) (.str (Txt.join (Str.ofString " / ") (LL.map joinT))) = some (.val (.str x)) ∧ x.length ≤ 950 ∧ leJ (Str.ofString " / ") (LL.map joinT) := by
  have jl : ∀ l ∈ LL, (joinT l).length ≤ k := fun l hl => Nat.le_trans (joinT_len (h l hl).2) (hk1 l hl)
  have l1 : (Str.ofString " ").length = 1 := by decide
  have sl := slash_len jl hn hk
  have e : (wd ++ Str.ofString " ").length = wd.length + 1 := by rw [app_len, l1]
  refine ⟨wd ++ Str.ofString " " ++ Txt.join (Str.ofString " / ") (LL.map joinT), if_pos (size_le (by omega)), if_pos (size_le (by omega)), by rw [app_len]; omega, leJ3 (fun l hl => ?_) (by omega)⟩
  have := joinT_len (h l hl).2
  have := (h l hl).1
  have : l.length * 31 ≤ 30 * 31 := Nat.mul_le_mul_right _ this
  omega
theorem text_ok {d : PyData} (h : PD d) : TextS d := by
  intro w
  have s1 : leS 1 := size_le (by omega)
  have inA := fun x : Str => in_strs (x := x) (ks := [Str.ofString "apart", Str.ofString "cross"])
  cases h with
  | @list wd ns mw l0 l30 hx =>
    have nt : ¬ wd = Str.ofString "tree" := by rintro rfl; revert mw; decide +kernel
    have nA : wd ∉ [Str.ofString "apart", Str.ofString "cross"] := fun z => by
      simp only [List.mem_cons, List.not_mem_nil, or_false] at z
      rcases z with rfl | rfl <;> (revert mw; decide +kernel)
    have iA := inA wd
    rw [decide_eq_false nA] at iA
    have iA' : inO (.str wd) (.list [.str (Str.ofString "apart"), .str (Str.ofString "cross")]) = some (.val (.bool false)) := iA
    have wl : wd.length ≤ 5 := by
      have : ∀ y ∈ LS, y.length ≤ 5 := by decide +kernel
      exact this wd mw
    have hl : ∀ l ∈ [ns], l.length ≤ 30 ∧ ∀ x ∈ l, NumOk x := fun l hl => by rw [List.mem_singleton.mp hl]; exact ⟨l30, hx⟩
    obtain ⟨x, a1, a2, lx, lj⟩ := text_end (k := 930) (n := 1) (LL := [ns]) wl hl (fun l hl => by rw [List.mem_singleton.mp hl]; omega) (by simp) (by omega) (by omega)
    have pc := pieces_ok (d := .tuple [.str wd, .list (ns.map .int)]) (LL := [ns]) (w := w) hl (by simp)
    refine ⟨x, ?_, lx⟩
    have st := strs_mapV (l := [ns].map joinT)
    rw [show ([ns].map llD) = [.list (ns.map .int)] from rfl] at pc
    obtain ⟨ND, hND⟩ : ∃ D, ns.map PyData.int = D := ⟨_, rfl⟩
    obtain ⟨JS, hJS⟩ : ∃ D, [ns].map joinT = D := ⟨_, rfl⟩
    obtain ⟨JD, hJD⟩ : ∃ D, JS.map PyData.str = D := ⟨_, rfl⟩
    rw [hND, hJS, hJD] at pc
    rw [hJS, hJD] at st
    rw [hJS] at a2 lj
    rw [hND]
    unfold l_law_text_3 at pc
    unfold F_law_text p_law_text
    simp only [x_runF]
    have ct : cutD [PyData.str wd, .list ND] (some 1) none = [.list ND] := rfl
    simp -implicitDefEqProofs [nt, iA', s1, ct, pc, st, lj, a1, a2]
  | @two wd a b mw la lb ha hb =>
    have nt : ¬ wd = Str.ofString "tree" := by rcases mw with rfl | rfl <;> decide +kernel
    have iA' : inO (.str wd) (.list [.str (Str.ofString "apart"), .str (Str.ofString "cross")]) = some (.val (.bool false)) := by
      have iA := inA wd
      rw [decide_eq_false (by rcases mw with rfl | rfl <;> decide +kernel)] at iA
      exact iA
    have wl : wd.length ≤ 5 := by rcases mw with rfl | rfl <;> decide +kernel
    have hl : ∀ l ∈ [a, b], l.length ≤ 30 ∧ ∀ x ∈ l, NumOk x := fun l hl => by
      simp only [List.mem_cons, List.not_mem_nil, or_false] at hl
      rcases hl with rfl | rfl
      · exact ⟨by omega, ha⟩
      · exact ⟨by omega, hb⟩
    obtain ⟨x, a1, a2, lx, lj⟩ := text_end (k := 124) (n := 2) (LL := [a, b]) wl hl (fun l hl => by
      simp only [List.mem_cons, List.not_mem_nil, or_false] at hl
      rcases hl with rfl | rfl <;> omega) (by simp) (by omega) (by omega)
    have pc := pieces_ok (d := .tuple [.str wd, .list (a.map .int), .list (b.map .int)]) (LL := [a, b]) (w := w) hl (by simp)
    refine ⟨x, ?_, lx⟩
    have st := strs_mapV (l := [a, b].map joinT)
    rw [show ([a, b].map llD) = [.list (a.map .int), .list (b.map .int)] from rfl] at pc
    obtain ⟨ND, hND⟩ : ∃ D, a.map PyData.int = D := ⟨_, rfl⟩
    obtain ⟨NE, hNE⟩ : ∃ D, b.map PyData.int = D := ⟨_, rfl⟩
    obtain ⟨JS, hJS⟩ : ∃ D, [a, b].map joinT = D := ⟨_, rfl⟩
    obtain ⟨JD, hJD⟩ : ∃ D, JS.map PyData.str = D := ⟨_, rfl⟩
    rw [hND, hNE, hJS, hJD] at pc
    rw [hJS, hJD] at st
    rw [hJS] at a2 lj
    rw [hND, hNE]
    unfold l_law_text_3 at pc
    unfold F_law_text p_law_text
    simp only [x_runF]
    have ct : cutD [PyData.str wd, .list ND, .list NE] (some 1) none = [.list ND, .list NE] := rfl
    simp -implicitDefEqProofs [nt, iA', s1, ct, pc, st, lj, a1, a2]
  | @many wd a ps mw la lp ha hp =>
    have nt : ¬ wd = Str.ofString "tree" := by rcases mw with rfl | rfl <;> decide +kernel
    have iA' : inO (.str wd) (.list [.str (Str.ofString "apart"), .str (Str.ofString "cross")]) = some (.val (.bool true)) := by
      have iA := inA wd
      rw [decide_eq_true (by rcases mw with rfl | rfl <;> decide +kernel)] at iA
      exact iA
    have wl : wd.length ≤ 5 := by rcases mw with rfl | rfl <;> decide +kernel
    have hl : ∀ l ∈ a :: ps, l.length ≤ 30 ∧ ∀ x ∈ l, NumOk x := fun l hl => by
      rcases List.mem_cons.mp hl with rfl | hl
      · exact ⟨by omega, ha⟩
      · have := hp l hl
        exact ⟨by omega, this.2⟩
    obtain ⟨x, a1, a2, lx, lj⟩ := text_end (k := 124) (n := 4) (LL := a :: ps) wl hl (fun l hl => by
      rcases List.mem_cons.mp hl with rfl | hl
      · omega
      · have := (hp l hl).1
        omega) (by simp; omega) (by omega) (by omega)
    have pc := pieces_ok (d := .tuple [.str wd, .list (a.map .int), .list (ps.map llD)]) (LL := a :: ps) (w := w) hl (by simp; omega)
    refine ⟨x, ?_, lx⟩
    have st := strs_mapV (l := (a :: ps).map joinT)
    have l1p : leS (1 + (ps.map llD).length) := size_le (by rw [List.length_map]; omega)
    have l1q : leS ((ps.map llD).length + 1) := size_le (by rw [List.length_map]; omega)
    rw [show ((a :: ps).map llD) = .list (a.map .int) :: ps.map llD from rfl] at pc
    obtain ⟨ND, hND⟩ : ∃ D, a.map PyData.int = D := ⟨_, rfl⟩
    obtain ⟨NE, hNE⟩ : ∃ D, ps.map llD = D := ⟨_, rfl⟩
    obtain ⟨JS, hJS⟩ : ∃ D, (a :: ps).map joinT = D := ⟨_, rfl⟩
    obtain ⟨JD, hJD⟩ : ∃ D, JS.map PyData.str = D := ⟨_, rfl⟩
    rw [hND, hNE, hJS, hJD] at pc
    rw [hJS, hJD] at st
    rw [hJS] at a2 lj
    rw [hNE] at l1p l1q
    rw [hND, hNE]
    unfold l_law_text_3 at pc
    unfold F_law_text p_law_text
    simp only [x_runF]
    have ct : cutD [PyData.str wd, .list ND, .list NE] (some 1) none = [.list ND, .list NE] := rfl
    simp -implicitDefEqProofs [nt, iA', s1, l1p, l1q, ct, pc, st, lj, a1, a2]
  | @tree ts lt ht =>
    have cl : ∀ v1 : Sl, l_law_text_1 ⟨[.val (.tuple [.str (Str.ofString "tree"), .list (ts.map ppT)]), .no, .no, .no, .no, .no], w⟩ = .ok (.new ((ts.map fun t => wI t.1 ++ Str.ofString "-" ++ wI t.2).map .str)) ⟨[.val (.tuple [.str (Str.ofString "tree"), .list (ts.map ppT)]), .no, .no, .no, .no, .no], w⟩ := fun v1 => by
      rw [List.map_map]
      refine lc_all (fun t : Int × Int => ⟨[.val (.tuple [.str (Str.ofString "tree"), .list (ts.map ppT)]), .no, .val (.int (t.1)), .val (.int (t.2)), .no, .no], w⟩) _ (f := ppT) (l := ts) (by simp -implicitDefEqProofs) (by omega) rfl (fun a _ => by rfl) (fun a _ => by rfl) (fun t htm => ?_)
      obtain ⟨h1, h2⟩ := ht t htm
      have so1 : strO (.int t.1) = some (.val (.str (wI t.1))) := if_pos (lg_ok h1.w)
      have so2 : strO (.int t.2) = some (.val (.str (wI t.2))) := if_pos (lg_ok h2.w)
      have w1 := (wI_le h1.w).1
      have w2 := (wI_le h2.w).1
      have ld : (Str.ofString "-").length = 1 := by decide
      have e1 : addO (.str (wI t.1)) (.str (Str.ofString "-")) = some (.val (.str (wI t.1 ++ Str.ofString "-"))) := if_pos (size_le (by omega))
      have e2 : addO (.str (wI t.1 ++ Str.ofString "-")) (.str (wI t.2)) = some (.val (.str (wI t.1 ++ Str.ofString "-" ++ wI t.2))) := if_pos (size_le (by rw [app_len]; omega))
      unfold e_law_text_1
      simp -implicitDefEqProofs [so1, so2, e1, e2]
    have cl := cl .no
    obtain ⟨WS', hWS⟩ : ∃ x, (ts.map fun t => wI t.1 ++ Str.ofString "-" ++ wI t.2) = x := ⟨_, rfl⟩
    have wl : ∀ y ∈ WS', y.length ≤ 61 := fun y hy => by
      rw [← hWS] at hy
      obtain ⟨t, htm, rfl⟩ := List.mem_map.mp hy
      obtain ⟨h1, h2⟩ := ht t htm
      have w1 := (wI_le h1.w).1
      have w2 := (wI_le h2.w).1
      have ld : (Str.ofString "-").length = 1 := by decide
      rw [app_len, app_len]
      omega
    have lW : WS'.length ≤ 9 := by rw [← hWS, List.length_map]; exact lt
    rw [hWS] at cl
    have tl4 : (Str.ofString "tree").length = 4 := by decide
    have al : ∀ y ∈ Str.ofString "tree" :: WS', y.length ≤ 61 := fun y hy => by
      rcases List.mem_cons.mp hy with rfl | hy
      · omega
      · exact wl y hy
    have lj : leJ (Str.ofString " ") (Str.ofString "tree" :: WS') := leJ_of (n := 10) (k := 61) (by decide) (by simp; omega) al (by omega)
    have lx : (Txt.join (Str.ofString " ") (Str.ofString "tree" :: WS')).length ≤ 950 := by
      rw [wI_len, TL.join_eq, TL.tl_join, tl_sp]
      have := len_joinL [32] (k := 61) (ps := (Str.ofString "tree" :: WS').map TL.tl) fun p hp => by
        obtain ⟨y, hy, rfl⟩ := List.mem_map.mp hp
        rw [← wI_len]
        exact al y hy
      simp only [List.length_map, List.length_cons, List.length_nil] at this
      omega
    refine ⟨_, ?_, lx⟩
    have st := strs_mapV (l := Str.ofString "tree" :: WS')
    rw [List.map_cons] at st
    have s2 : leS (1 + (WS'.map PyData.str).length) := size_le (by rw [List.length_map]; omega)
    have s3 : leS ((WS'.map PyData.str).length + 1) := size_le (by rw [List.length_map]; omega)
    obtain ⟨TD, hTD⟩ : ∃ D, ts.map ppT = D := ⟨_, rfl⟩
    obtain ⟨WD, hWD⟩ : ∃ D, WS'.map PyData.str = D := ⟨_, rfl⟩
    rw [hTD, hWD] at cl
    rw [hWD] at st s2 s3
    rw [hTD]
    unfold l_law_text_1 at cl
    unfold F_law_text p_law_text
    simp only [x_runF]
    simp -implicitDefEqProofs [s1, cl, st, s2, s3, lj]

end DL

noncomputable section
namespace DL
open PySem L2
def b_law_k83_1 : DSt → Flow := fseq (fSet 3 (fUser F_law_bent_v17 (fCons (fVar 2) (fCons (fVar 3) fNil)))) (fseq (fSet 5 (fLst (fCons (fUser F_law_wrong_v7 (fCons (fVar 3) fNil)) fNil))) (fseq (fIfS (fB (fOp (lift2 eqO) (fVar 5) (fLst (fCons (fC .none) fNil)))) (fSet 5 (fTup (fCons (fUser F_law_paper (fCons (fVar 3) fNil)) fNil))) fnext) (fseq (fSet 6 (fJoin (fC (.str " ")) (fVar 3))) (fIfS (fOr (fB (fOp (lift2 neO) (fUser F_law_told_v37 (fCons (fVar 6) fNil)) (fVar 5))) (fB (fOp (lift2 neO) (fUser F_law_told_v37 (fCons (fVar 6) fNil)) (fVar 5)))) (fRet (fC (.bool false))) fnext))))
abbrev o_law_k83_1 : List PyData → DSt → Flow := loopF (bName 4) b_law_k83_1
def b_law_k83_2 : DSt → Flow := fseq (fSet 3 (fSplit (fUser F_law_text (fCons (fUser F_law_drawn_v4 (fCons (fVar 2) fNil)) fNil)) (fC (.str " ")))) (fFor (fRng1 (pCons (fC (.int 3)) fNil)) (bName 4) b_law_k83_1)
def p_law_k83 : DSt → Flow := fseq (fForW (fLstI (fOp (lift2 addO) (fLst (fCons (fC (.int 47)) fNil)) (fScCut 8 (fVar 0)))) (bName 1) 2 (fUser F_law_left (fCons (fVar 1) fNil)) b_law_k83_2) (fRet (fUser F_law_refusals_held_v8 fNil))
def F_law_k83 : List R → Pw → FRes := runF 7 1 p_law_k83
/-! one turn -/
theorem spl_spS (x : Str) : (Txt.split x (Str.ofString " ")).map TL.tl = TL.spl [32] 0 [] (TL.tl x) := by
  rw [TL.split_spl x (Str.ofString " ") (by rw [tl_sp]; simp) (TL.kind_ok (by decide +kernel)), tl_sp]
theorem text_words {x : Str} (h : x.length ≤ 950) : WN 951 (Txt.split x (Str.ofString " ")) := by
  have hl : (Txt.split x (Str.ofString " ")).length = (TL.tl x).count 32 + 1 := by
    have := congrArg List.length (spl_spS x)
    rw [List.length_map, spl_count] at this
    exact this
  have hc := List.count_le_length (a := 32) (l := TL.tl x)
  rw [← wI_len] at hc
  refine ⟨fun y hy => ?_, List.length_pos_iff.mp (by omega), by omega⟩
  have hm : TL.tl y ∈ TL.spl [32] 0 [] (TL.tl x) := by rw [← spl_spS]; exact List.mem_map_of_mem hy
  have := spl_mem (TL.tl x) [] (by simp) _ hm
  have hs := PyProof.Rows.part_short hy
  exact ⟨by omega, this.2⟩
theorem turnP {pa : Addr} {w : Pw} {m : Int} {n : Nat} {ws : List Str} {a0 a1 v3 a4 v5 v6 : Sl} (h : LP pa w m) (hm : m < 2 ^ 36) (hw : WN n ws) (hn : n ≤ 970) (hv : v3 = .own (ws.map .str) ∨ v3 = .val (.list (ws.map .str))) :
    ∃ (ws' : List Str) (w' : Pw) (u5 u6 : Sl), b_law_k83_1 ⟨[a0, a1, .raw (.ref pa), v3, a4, v5, v6], w⟩ = .next ⟨[a0, a1, .raw (.ref pa), .val (.list (ws'.map .str)), a4, u5, u6], w'⟩ ∧ WN (n + 1) ws' ∧ LP pa w' (m + 10) := by
  obtain ⟨ws', w', e, hw', q⟩ := bent_words h hm hw hn
  have hS := hw'.ws (by omega)
  have tp := told_paper (w := w') hS
  have lj := hS.join
  have st := strs_mapV (l := ws')
  have s1 : leS 1 := size_le (by omega)
  obtain ⟨X, hX⟩ : ∃ X, Txt.join (Str.ofString " ") ws' = X := ⟨_, rfl⟩
  rw [show spT ws' = X from hX] at tp
  have ew : F_law_wrong_v7 [.val (.list (ws'.map .str))] w' = .ok (.val (optN (wrongV ws'))) w' := by
    cases ws' with
    | nil => exact absurd rfl hS.n
    | cons w0 r => exact wrong_any hS.w (by have := hS.l; simp at this; omega)
  cases qp : paperV ws' with
  | inl d =>
    have ep : F_law_paper [.val (.list (ws'.map .str))] w' = .ok (.val d) w' := by
      cases ws' with
      | nil => exact absurd rfl hS.n
      | cons w0 r => exact paper_any hS.w (by have := hS.l; simp at this; omega) qp
    have et := tp.1 d qp
    have nn := neO_self (paper_bdd hS qp) (by omega)
    have wv : optN (wrongV ws') = .none := by unfold wrongV; rw [qp]; rfl
    rw [wv] at ew
    have eqn : eqO (.list [.none]) (.list [.none]) = some (.val (.bool true)) := by simp [eqO, PyData.eqv, PyData.eqvAll]
    refine ⟨ws', w', .val (.tuple [d]), .val (.str X), ?_, hw', q⟩
    obtain ⟨D, hD⟩ : ∃ D, ws.map PyData.str = D := ⟨_, rfl⟩
    obtain ⟨E, hE⟩ : ∃ D, ws'.map PyData.str = D := ⟨_, rfl⟩
    rw [hD] at e hv
    rw [hE] at e ew ep st ⊢
    rcases hv with rfl | rfl <;> unfold b_law_k83_1 <;> simp -implicitDefEqProofs [e, ew, s1, eqn, ep, st, lj, hX, et, nn]
  | inr k =>
    have et := tp.2 k qp
    have nn : neO (.list [.int (k : Int)]) (.list [.int (k : Int)]) = some (.val (.bool false)) := neO_self (n := 1) (by simp) (by omega)
    have wv : optN (wrongV ws') = .int (k : Int) := by unfold wrongV; rw [qp]; rfl
    rw [wv] at ew
    have eqn : eqO (.list [.int (k : Int)]) (.list [.none]) = some (.val (.bool false)) := by simp [eqO, PyData.eqv, PyData.eqvAll]
    refine ⟨ws', w', .own [.int (k : Int)], .val (.str X), ?_, hw', q⟩
    obtain ⟨D, hD⟩ : ∃ D, ws.map PyData.str = D := ⟨_, rfl⟩
    obtain ⟨E, hE⟩ : ∃ D, ws'.map PyData.str = D := ⟨_, rfl⟩
    rw [hD] at e hv
    rw [hE] at e ew st ⊢
    rcases hv with rfl | rfl <;> unfold b_law_k83_1 <;> simp -implicitDefEqProofs [e, ew, s1, eqn, st, lj, hX, et, nn]

end DL

noncomputable section
namespace DL
open PySem L2

theorem law_k83_ok : LawOkS 7 p_law_k83 := by
  intro ns hl
  have good : goodW (bName 1) 2 (fUser F_law_left (fCons (fVar 1) fNil)) b_law_k83_2 ((47 :: ns.take 8).map .int) ⟨[.ob (.scr ns), .no, .no, .no, .no, .no, .no], none⟩ := by
    refine ⟨rfl, by simp [clearZ], fun d hd => ?_⟩
    obtain ⟨c, hc, rfl⟩ := List.mem_map.mp hd
    obtain ⟨n, g, el, n0, n1⟩ := left_ok (c := c) (w := none)
    refine ⟨⟨[.ob (.scr ns), .val (.int (c)), .no, .no, .no, .no, .no], none⟩, ⟨[.ob (.scr ns), .val (.int (c)), .no, .no, .no, .no, .no], none⟩, [n, g, 0], rfl, by simp -implicitDefEqProofs [el], rfl, by simp, fun pa => ?_⟩
    have lp : LP pa (some (pa, pa, [n, g, 0], 0)) 0 := ⟨n, g, 0, rfl, n0, n1, by omega, by omega⟩
    obtain ⟨d, w1, e1, pd, q1⟩ := drawn_ok lp (by omega)
    obtain ⟨x, e2, lx⟩ := text_ok pd w1
    have hw := text_words lx
    have sl : leS (x.length + 2) := size_le (by omega)
    obtain ⟨W0, hW0⟩ : ∃ W0, Txt.split x (Str.ofString " ") = W0 := ⟨_, rfl⟩
    rw [hW0] at hw
    obtain ⟨x1, w6, b5, b6, t1, y1, q6⟩ := turnP (a0 := .ob (.scr ns)) (a1 := .val (.int (c))) (a4 := .val (.int (0))) (v3 := .own (W0.map .str)) (v5 := .no) (v6 := .no) q1 (by omega) hw (by omega) (.inl rfl)
    obtain ⟨x2, w7, c5, c6, t2, y2, q7⟩ := turnP (a0 := .ob (.scr ns)) (a1 := .val (.int (c))) (a4 := .val (.int (1))) (v3 := .val (.list (x1.map .str))) (v5 := b5) (v6 := b6) q6 (by omega) y1 (by omega) (.inr rfl)
    obtain ⟨x3, w8, d5, d6, t3, y3, q8⟩ := turnP (a0 := .ob (.scr ns)) (a1 := .val (.int (c))) (a4 := .val (.int (2))) (v3 := .val (.list (x2.map .str))) (v5 := c5) (v6 := c6) q7 (by omega) y2 (by omega) (.inr rfl)
    have hsD : (Txt.split x (Str.ofString " ")).map PyData.str = W0.map .str := by rw [hW0]
    obtain ⟨D0, hD0⟩ : ∃ D, W0.map PyData.str = D := ⟨_, rfl⟩
    rw [hD0] at hsD t1
    have rg : rangeD 0 3 = [.int 0, .int 1, .int 2] := rfl
    have k0 : bName 4 (.int 0) ⟨[.ob (.scr ns), .val (.int (c)), .raw (.ref pa), .own D0, .no, .no, .no], w1⟩ = some ⟨[.ob (.scr ns), .val (.int (c)), .raw (.ref pa), .own D0, .val (.int (0)), .no, .no], w1⟩ := rfl
    have k1 : bName 4 (.int 1) ⟨[.ob (.scr ns), .val (.int (c)), .raw (.ref pa), .val (.list (x1.map .str)), .val (.int (0)), b5, b6], w6⟩ = some ⟨[.ob (.scr ns), .val (.int (c)), .raw (.ref pa), .val (.list (x1.map .str)), .val (.int (1)), b5, b6], w6⟩ := rfl
    have k2 : bName 4 (.int 2) ⟨[.ob (.scr ns), .val (.int (c)), .raw (.ref pa), .val (.list (x2.map .str)), .val (.int (1)), c5, c6], w7⟩ = some ⟨[.ob (.scr ns), .val (.int (c)), .raw (.ref pa), .val (.list (x2.map .str)), .val (.int (2)), c5, c6], w7⟩ := rfl
    have lp3 : loopF (bName 4) b_law_k83_1 [.int 0, .int 1, .int 2] ⟨[.ob (.scr ns), .val (.int (c)), .raw (.ref pa), .own D0, .no, .no, .no], w1⟩ = .next ⟨[.ob (.scr ns), .val (.int (c)), .raw (.ref pa), .val (.list (x3.map .str)), .val (.int (2)), d5, d6], w8⟩ := by
      rw [loop_cons k0, t1]
      dsimp only
      rw [loop_cons k1, t2]
      dsimp only
      rw [loop_cons k2, t3]
      rfl
    show Nx (b_law_k83_2 ⟨[.ob (.scr ns), .val (.int (c)), .raw (.ref pa), .no, .no, .no, .no], some (pa, pa, [n, g, 0], 0)⟩) (fun s6 => keepZ [.ob (.scr ns), .no, .no, .no, .no, .no, .no] s6.d)
    unfold b_law_k83_2
    simp -implicitDefEqProofs [e1, e2, sl, spc, hsD, rg, lp3, keepZ]
  have s1 : leS 1 := size_le (by omega)
  have s7 : leS (1 + (ns.take 8).length) := size_le (by rw [List.length_take]; omega)
  have e := y_kForW good
  obtain ⟨Z, hZ⟩ : ∃ Z, Z = ns.take 8 := ⟨_, rfl⟩
  rw [← hZ] at e s7
  rw [List.map_cons] at e
  unfold p_law_k83
  simp -implicitDefEqProofs [s1, s7, ← hZ, e, held_okP]

end DL

noncomputable section
namespace DL
open PySem L2 PyProof.Rows
open Evl (Ex)
namespace K83
def top (i : Nat) : Stmt := PySem.Challenge.pw_ontheline_k83_texts_of_no_paper.main.body.getD i (.Pass ⟨0, 0, 0, 0⟩)
structure Txt (w : World) (K : PySem.W.Frag) (mg : Str → Option Value) : Prop where
  b_int : mg "int" = none
  b_len : mg "len" = none
  b_all : mg "all" = none
  b_enumerate : mg "enumerate" = none
  b_range : mg "range" = none
  b_tuple : mg "tuple" = none
  b_list : mg "list" = none
  b_str : mg "str" = none
  b_isinstance : mg "isinstance" = none
  b_ValueError : mg "ValueError" = none
  b_zip : mg "zip" = none
  b_bool : mg "bool" = none
  exc : ExGs K mg ["NoText"]
  ox_NoText : OxF K mg "NoText" "NoText.__init__" (inSt (top 10))
  exy_NoBack : ExY K mg ["NoText"] "NoBack"
  exy_NoFall : ExY K mg ["NoText"] "NoFall"
  exy_NoFit : ExY K mg ["NoText"] "NoFit"
  exy_NoFixed : ExY K mg ["NoText"] "NoFixed"
  exy_NoFolk : ExY K mg ["NoText"] "NoFolk"
  exy_NoHand : ExY K mg ["NoText"] "NoHand"
  exy_NoLine : ExY K mg ["NoText"] "NoLine"
  exy_NoNames : ExY K mg ["NoText"] "NoNames"
  exy_NoNumber : ExY K mg ["NoText"] "NoNumber"
  exy_NoPaper : ExY K mg ["NoText"] "NoPaper"
  exy_NoRanking : ExY K mg ["NoText"] "NoRanking"
  exy_NoRow : ExY K mg ["NoText"] "NoRow"
  exy_NoRule : ExY K mg ["NoText"] "NoRule"
  exy_NoTitle : ExY K mg ["NoText"] "NoTitle"
  exy_NoTops : ExY K mg ["NoText"] "NoTops"
  exy_NoTree : ExY K mg ["NoText"] "NoTree"
  exy_NoWeights : ExY K mg ["NoText"] "NoWeights"
  exy_TooGreat : ExY K mg ["NoText"] "TooGreat"
  c_MOST_FIGURES : ∃ t, mg "MOST_FIGURES" = some (.int 30 t)
  c_FIGURES : ∃ t, mg "FIGURES" = some (.str "0123456789" t)
  g_LISTS : GLst K mg "LISTS" ["line", "row", "gone", "order", "ring"]
  g_FORMS : GDk K w mg "FORMS" [("three", [3, 3]), ("four", [2, 4]), ("apart", [3, 2, 2, 2]), ("cross", [4, 2, 2])]
  d_number_of : Wr K mg "number_of" (top 26) ["word"]
  d_tie_by : Wr K mg "tie_by" (top 27) ["word"]
  d_numbers_by : Wr K mg "numbers_by" (top 28) ["words", "first"]
  d_lists_by : Wr K mg "lists_by" (top 29) ["words", "sizes"]
  d_ties_by : Wr K mg "ties_by" (top 30) ["words"]
  d_read_paper : Wr K mg "read_paper" (top 31) ["text"]
  d__law_mix : Wr K mg "_law_mix" (top 33) ["_law_number", "_law_k"]
  d__law_left : Wr K mg "_law_left" (top 34) ["_law_cell"]
  d__law_draw : Wr K mg "_law_draw" (top 35) ["_law_left_here", "_law_base"]
  d__law_numbers : Wr K mg "_law_numbers" (top 36) ["_law_left_here", "_law_many"]
  d__law_drawn : Wr K mg "_law_drawn" (top 37) ["_law_left_here"]
  d__law_text : Wr K mg "_law_text" (top 38) ["_law_paper_here"]
  d__law_marks : Wr K mg "_law_marks" (top 39) ["_law_caught"]
  d__law_figured : Wr K mg "_law_figured" (top 40) ["_law_word"]
  d__law_tie : Wr K mg "_law_tie" (top 41) ["_law_word"]
  d__law_shape : Wr K mg "_law_shape" (top 42) ["_law_word"]
  d__law_marks_of : Wr K mg "_law_marks_of" (top 43) ["_law_sizes"]
  d__law_wrong : Wr K mg "_law_wrong" (top 44) ["_law_words"]
  d__law_paper : Wr K mg "_law_paper" (top 45) ["_law_words"]
  d__law_told : Wr K mg "_law_told" (top 46) ["_law_text_here"]
  d__law_bent : Wr K mg "_law_bent" (top 47) ["_law_left_here", "_law_words"]
  d__law_refusals_held : Wr K mg "_law_refusals_held" (top 48) []
section
variable {P : Program} {w : World} {K : PySem.W.Frag} {mg : Str → Option Value} {base : Heap} {cl : String → Addr}
theorem wx_NoText (T : Txt w K mg) : InitOk P w K mg base "NoText" := init_ok (m := "no text") T.ox_NoText ⟨rfl, rfl, rfl, by decide +kernel, rfl, by decide +kernel, by decide +kernel⟩ fun f cdv A outer s H E => by
  obtain ⟨CF, g, r, v⟩ := T.ox_NoText.bs
  exact pss_cons (ps_expr (pe_clsinit (x := "FolkError") rfl g r v (pa_cons (pe_var (i := 0) rfl (Or.inl rfl)) (pa_cons pe_str pa_nil)))) (pss_one (ps_ost (pe_var (i := 0) rfl (Or.inl rfl)) (pe_var (i := 1) rfl (Or.inl rfl))))
abbrev N_number_of : List Str := ["word", "sign"]
theorem sc_number_of : FnScope N_number_of ["word"] (defScope (top 26)) := ⟨rfl, rfl, rfl, by decide +kernel, rfl, by decide +kernel, by decide +kernel⟩
theorem w_number_of (T : Txt w K mg) : Cal P w K mg base (clOf K) "number_of" 1 ["word"] F_number_of_v2 := by
  obtain ⟨t_FIGURES, k_FIGURES⟩ := T.c_FIGURES
  obtain ⟨t_MOST_FIGURES, k_MOST_FIGURES⟩ := T.c_MOST_FIGURES
  have sc := sc_number_of
  refine cal_of T.d_number_of sc (by decide) fun f cdv A outer s H E hr => ?_
  have tk : Takes (cxOf (L2.CX P w) P w K mg base N_number_of "number_of" (defScope (top 26)) f cdv A outer s H E) (fun cls d _ H => E cls d H) := takes_of rfl rfl rfl rfl
  exact ss_cons (s_if (d_tw (w_or (t_eq hr.units (d_var 0) d_str) (w_or (t_gt (d_callB (CallR.or' call_len_seq call_len_str) cd_len rfl T.b_len (by decide +kernel) (ap_cons (d_var 0) ap_nil)) (d_globI rfl k_MOST_FIGURES)) (w_or1 (d_tnot (d_tval (d_callB (cr_all rfl) cd_all rfl T.b_all (by decide +kernel) (ap_cons (d_lc rfl sc.nd (own := [("sign", 1)]) (i_str (d_var 0)) (blkOk_by (own := [("sign", 1)]) (N := N_number_of) (sc := defScope (top 26)) (by decide +kernel)) (g_name 1) (by decide) (fun _ _ _ _ _ => pg_name (i := 1) sc.nd rfl (by first | exact Or.inl rfl | exact Or.inr rfl)) (fun _ _ _ _ _ => dts_nil) (fun _ _ _ _ _ => d_sgIn (by rfl) (d_var 1) (d_globS rfl k_FIGURES))) ap_nil)))))))) (ss_one (s_ret d_non)) ss_nil) (ss_cons (s_if (d_tw (w_and (t_eq hr.units (d_ix (d_var 0) d_int (fun _ _ => rfl)) d_str) (w_and1 (t_ne hr.units (d_var 0) d_str)))) (ss_one (s_ret d_non)) ss_nil) (ss_one (s_ret (d_callTy call_int_str cd_intT rfl T.b_int (by decide +kernel) (ap_cons (d_var 0) ap_nil)))))
abbrev N_tie_by : List Str := ["word", "parts", "found", "part"]
theorem sc_tie_by : FnScope N_tie_by ["word"] (defScope (top 27)) := ⟨rfl, rfl, rfl, by decide +kernel, rfl, by decide +kernel, by decide +kernel⟩
theorem w_tie_by (T : Txt w K mg)
    (c_number_of : Cal P w K mg base (clOf K) "number_of" 1 ["word"] F_number_of_v2) : Cal P w K mg base (clOf K) "tie_by" 2 ["word"] F_tie_by_v2 := by
  have sc := sc_tie_by
  refine cal_of T.d_tie_by sc (by decide) fun f cdv A outer s H E hr => ?_
  have tk : Takes (cxOf (L2.CX P w) P w K mg base N_tie_by "tie_by" (defScope (top 27)) f cdv A outer s H E) (fun cls d _ H => E cls d H) := takes_of rfl rfl rfl rfl
  exact ss_cons (s_set (i := 1) sc.nd rfl (by first | exact Or.inl rfl | exact Or.inr rfl) (d_split (d_var 0) d_str)) (ss_cons (s_setLc (i := 2) rfl sc.nd rfl rfl (sw_true rfl rfl rfl (by decide +kernel)) (own := [("part", 3)]) (i_list (d_var 1)) (blkOk_by (own := [("part", 3)]) (N := N_tie_by) (sc := defScope (top 27)) (by decide +kernel)) (g_name 3) (by decide) (fun _ _ _ _ _ => pg_name (i := 3) sc.nd rfl (by first | exact Or.inl rfl | exact Or.inr rfl)) (fun _ _ _ _ _ => dts_nil) (fun _ _ _ _ _ => d_cal c_number_of (hr.mono (by decide)) passA0 (ae_cons (d_var 3) ae_nil))) (ss_cons (s_if (d_tw (w_or (t_ne hr.units (d_callB (CallR.or' call_len_seq call_len_str) cd_len rfl T.b_len (by decide +kernel) (ap_cons (d_var 2) ap_nil)) d_int) (w_or1 (t_in hr.units (by rfl) d_non (d_var 2))))) (ss_one (s_ret d_non)) ss_nil) (ss_one (s_ret (d_tup (ae_cons (d_ix (d_var 2) d_int (fun _ _ => rfl)) (ae_cons (d_ix (d_var 2) d_int (fun _ _ => rfl)) ae_nil)))))))
abbrev N_numbers_by : List Str := ["words", "first", "found", "k", "word", "number"]
theorem sc_numbers_by : FnScope N_numbers_by ["words", "first"] (defScope (top 28)) := ⟨rfl, rfl, rfl, by decide +kernel, rfl, by decide +kernel, by decide +kernel⟩
theorem w_numbers_by (T : Txt w K mg)
    (c_number_of : Cal P w K mg base (clOf K) "number_of" 1 ["word"] F_number_of_v2) : Cal P w K mg base (clOf K) "numbers_by" 3 ["words", "first"] F_numbers_by_v4 := by
  have sc := sc_numbers_by
  refine cal_of T.d_numbers_by sc (by decide) fun f cdv A outer s H E hr => ?_
  have tk : Takes (cxOf (L2.CX P w) P w K mg base N_numbers_by "numbers_by" (defScope (top 28)) f cdv A outer s H E) (fun cls d _ H => E cls d H) := takes_of rfl rfl rfl rfl
  exact ss_cons (s_set (i := 2) sc.nd rfl (by first | exact Or.inl rfl | exact Or.inr rfl) (d_lst ae_nil)) (ss_cons (s_for (passes_of rfl) rfl (i_enum rfl T.b_enumerate (ae_cons (d_var 0) ae_nil)) (pg_tup rfl (pgs_cons (pg_name (i := 3) sc.nd rfl (by first | exact Or.inl rfl | exact Or.inr rfl)) (pgs_cons (pg_name (i := 4) sc.nd rfl (by first | exact Or.inl rfl | exact Or.inr rfl)) pgs_nil))) (g_tup (n := 2) (g_cons (g_name 3) (g_cons (g_name 4) g_nil))) (ss_cons (s_set (i := 5) sc.nd rfl (by first | exact Or.inl rfl | exact Or.inr rfl) (d_cal c_number_of (hr.mono (by decide)) (passAt tk) (ae_cons (d_var 4) ae_nil))) (ss_cons (s_if (t_isN (d_var 5)) (ss_one (s_raiseA (n := "NoText") (wx_NoText (P := P) (w := w) (base := base) T) rfl (hr.room.mono (by decide)) rfl tk rfl rfl (d_add (d_var 1) (d_var 3)))) ss_nil) (ss_one (s_expr (d_append (pv 2) (d_var 5))))))) (ss_one (s_ret (d_var 2))))
abbrev N_lists_by : List Str := ["words", "sizes", "found", "at", "k", "size"]
theorem sc_lists_by : FnScope N_lists_by ["words", "sizes"] (defScope (top 29)) := ⟨rfl, rfl, rfl, by decide +kernel, rfl, by decide +kernel, by decide +kernel⟩
theorem w_lists_by (T : Txt w K mg)
    (c_numbers_by : Cal P w K mg base (clOf K) "numbers_by" 3 ["words", "first"] F_numbers_by_v4) : Cal P w K mg base (clOf K) "lists_by" 4 ["words", "sizes"] F_lists_by_v5 := by
  have sc := sc_lists_by
  refine cal_of T.d_lists_by sc (by decide) fun f cdv A outer s H E hr => ?_
  have tk : Takes (cxOf (L2.CX P w) P w K mg base N_lists_by "lists_by" (defScope (top 29)) f cdv A outer s H E) (fun cls d _ H => E cls d H) := takes_of rfl rfl rfl rfl
  exact ss_cons (s_set (i := 2) sc.nd rfl (by first | exact Or.inl rfl | exact Or.inr rfl) (d_lst ae_nil)) (ss_cons (s_set (i := 3) sc.nd rfl (by first | exact Or.inl rfl | exact Or.inr rfl) d_int) (ss_cons (s_for (passes_of rfl) rfl (i_enumT rfl T.b_enumerate (ae_cons (d_var 1) ae_nil)) (pg_tup rfl (pgs_cons (pg_name (i := 4) sc.nd rfl (by first | exact Or.inl rfl | exact Or.inr rfl)) (pgs_cons (pg_name (i := 5) sc.nd rfl (by first | exact Or.inl rfl | exact Or.inr rfl)) pgs_nil))) (g_tup (n := 2) (g_cons (g_name 4) (g_cons (g_name 5) g_nil))) (ss_cons (s_if (t_gt (d_var 4) d_int) (ss_cons (s_if (t_ne hr.units (d_slice (d_var 0) (dp_some (d_var 3)) (dp_some (d_add (d_var 3) d_int))) (d_lst (ae_cons d_str ae_nil))) (ss_one (s_raiseA (n := "NoText") (wx_NoText (P := P) (w := w) (base := base) T) rfl (hr.room.mono (by decide)) rfl tk rfl rfl (d_var 3))) ss_nil) (ss_one (s_aug (i := 3) sc.nd rfl (by first | exact Or.inl rfl | exact Or.inr rfl) d_int ip_add))) ss_nil) (ss_cons (s_expr (d_append (pv 2) (d_cal c_numbers_by (hr.mono (by decide)) (passAt tk) (ae_cons (d_slice (d_var 0) (dp_some (d_var 3)) (dp_some (d_add (d_var 3) (d_var 5)))) (ae_cons (d_var 3) ae_nil))))) (ss_cons (s_if (t_lt (d_callB (CallR.or' call_len_seq call_len_str) cd_len rfl T.b_len (by decide +kernel) (ap_cons (d_ix (d_var 2) (d_neg d_int) (fun _ _ => rfl)) ap_nil)) (d_var 5)) (ss_one (s_raiseA (n := "NoText") (wx_NoText (P := P) (w := w) (base := base) T) rfl (hr.room.mono (by decide)) rfl tk rfl rfl (d_callB (CallR.or' call_len_seq call_len_str) cd_len rfl T.b_len (by decide +kernel) (ap_cons (d_var 0) ap_nil)))) ss_nil) (ss_one (s_aug (i := 3) sc.nd rfl (by first | exact Or.inl rfl | exact Or.inr rfl) (d_var 5) ip_add)))))) (ss_cons (s_if (t_lt (d_var 3) (d_callB (CallR.or' call_len_seq call_len_str) cd_len rfl T.b_len (by decide +kernel) (ap_cons (d_var 0) ap_nil))) (ss_one (s_raiseA (n := "NoText") (wx_NoText (P := P) (w := w) (base := base) T) rfl (hr.room.mono (by decide)) rfl tk rfl rfl (d_var 3))) ss_nil) (ss_one (s_ret (d_var 2))))))
abbrev N_ties_by : List Str := ["words", "found", "k", "word", "tie"]
theorem sc_ties_by : FnScope N_ties_by ["words"] (defScope (top 30)) := ⟨rfl, rfl, rfl, by decide +kernel, rfl, by decide +kernel, by decide +kernel⟩
theorem w_ties_by (T : Txt w K mg)
    (c_tie_by : Cal P w K mg base (clOf K) "tie_by" 2 ["word"] F_tie_by_v2) : Cal P w K mg base (clOf K) "ties_by" 3 ["words"] F_ties_by_v8 := by
  have sc := sc_ties_by
  refine cal_of T.d_ties_by sc (by decide) fun f cdv A outer s H E hr => ?_
  have tk : Takes (cxOf (L2.CX P w) P w K mg base N_ties_by "ties_by" (defScope (top 30)) f cdv A outer s H E) (fun cls d _ H => E cls d H) := takes_of rfl rfl rfl rfl
  exact ss_cons (s_set (i := 1) sc.nd rfl (by first | exact Or.inl rfl | exact Or.inr rfl) (d_lst ae_nil)) (ss_cons (s_for (passes_of rfl) rfl (i_enum rfl T.b_enumerate (ae_cons (d_var 0) ae_nil)) (pg_tup rfl (pgs_cons (pg_name (i := 2) sc.nd rfl (by first | exact Or.inl rfl | exact Or.inr rfl)) (pgs_cons (pg_name (i := 3) sc.nd rfl (by first | exact Or.inl rfl | exact Or.inr rfl)) pgs_nil))) (g_tup (n := 2) (g_cons (g_name 2) (g_cons (g_name 3) g_nil))) (ss_cons (s_set (i := 4) sc.nd rfl (by first | exact Or.inl rfl | exact Or.inr rfl) (d_cal c_tie_by (hr.mono (by decide)) (passAt tk) (ae_cons (d_var 3) ae_nil))) (ss_cons (s_if (t_isN (d_var 4)) (ss_one (s_raiseA (n := "NoText") (wx_NoText (P := P) (w := w) (base := base) T) rfl (hr.room.mono (by decide)) rfl tk rfl rfl (d_add d_int (d_var 2)))) ss_nil) (ss_one (s_expr (d_append (pv 1) (d_var 4))))))) (ss_one (s_ret (d_var 1))))
abbrev N_read_paper : List Str := ["text", "words", "word", "lists"]
theorem sc_read_paper : FnScope N_read_paper ["text"] (defScope (top 31)) := ⟨rfl, rfl, rfl, by decide +kernel, rfl, by decide +kernel, by decide +kernel⟩
theorem w_read_paper (T : Txt w K mg)
    (c_numbers_by : Cal P w K mg base (clOf K) "numbers_by" 3 ["words", "first"] F_numbers_by_v4)
    (c_lists_by : Cal P w K mg base (clOf K) "lists_by" 4 ["words", "sizes"] F_lists_by_v5)
    (c_ties_by : Cal P w K mg base (clOf K) "ties_by" 3 ["words"] F_ties_by_v8) : Cal P w K mg base (clOf K) "read_paper" 5 ["text"] F_read_paper_v2 := by
  have sc := sc_read_paper
  refine cal_of T.d_read_paper sc (by decide) fun f cdv A outer s H E hr => ?_
  have tk : Takes (cxOf (L2.CX P w) P w K mg base N_read_paper "read_paper" (defScope (top 31)) f cdv A outer s H E) (fun cls d _ H => E cls d H) := takes_of rfl rfl rfl rfl
  exact ss_cons (s_set (i := 1) sc.nd rfl (by first | exact Or.inl rfl | exact Or.inr rfl) (d_split (d_var 0) d_str)) (ss_cons (s_set (i := 2) sc.nd rfl (by first | exact Or.inl rfl | exact Or.inr rfl) (d_ix (d_var 1) d_int (fun _ _ => rfl))) (ss_cons (s_if (t_eq hr.units (d_var 2) d_str) (ss_one (s_ret (d_tup (ae_cons (d_var 2) (ae_cons (d_cal c_ties_by (hr.mono (by decide)) (passAt tk) (ae_cons (d_slice (d_var 1) (dp_some d_int) dp_none) ae_nil)) ae_nil))))) ss_nil) (ss_cons (s_if (t_inL T.g_LISTS rfl (d_var 2)) (ss_cons (s_if (t_eq hr.units (d_callB (CallR.or' call_len_seq call_len_str) cd_len rfl T.b_len (by decide +kernel) (ap_cons (d_var 1) ap_nil)) d_int) (ss_one (s_raiseA (n := "NoText") (wx_NoText (P := P) (w := w) (base := base) T) rfl (hr.room.mono (by decide)) rfl tk rfl rfl d_int)) ss_nil) (ss_one (s_ret (d_tup (ae_cons (d_var 2) (ae_cons (d_cal c_numbers_by (hr.mono (by decide)) (passAt tk) (ae_cons (d_slice (d_var 1) (dp_some d_int) dp_none) (ae_cons d_int ae_nil))) ae_nil)))))) ss_nil) (ss_cons (s_if (t_ninD T.g_FORMS rfl (d_var 2)) (ss_one (s_raiseA (n := "NoText") (wx_NoText (P := P) (w := w) (base := base) T) rfl (hr.room.mono (by decide)) rfl tk rfl rfl d_int)) ss_nil) (ss_cons (s_set (i := 3) sc.nd rfl (by first | exact Or.inl rfl | exact Or.inr rfl) (d_cal c_lists_by (hr.mono (by decide)) (passAt tk) (ae_cons (d_var 1) (ae_cons (d_glIx T.g_FORMS rfl (d_var 2) (fun _ _ => rfl)) ae_nil)))) (ss_cons (s_if (t_eq hr.units (d_callB (CallR.or' call_len_seq call_len_str) cd_len rfl T.b_len (by decide +kernel) (ap_cons (d_var 3) ap_nil)) d_int) (ss_one (s_ret (d_tup (ae_cons (d_var 2) (ae_cons (d_ix (d_var 3) d_int (fun _ _ => rfl)) (ae_cons (d_ix (d_var 3) d_int (fun _ _ => rfl)) ae_nil)))))) ss_nil) (ss_one (s_ret (d_tup (ae_cons (d_var 2) (ae_cons (d_ix (d_var 3) d_int (fun _ _ => rfl)) (ae_cons (d_slice (d_var 3) (dp_some d_int) dp_none) ae_nil))))))))))))
abbrev N__law_mix : List Str := ["_law_number", "_law_k", "_law_mixed"]
theorem sc__law_mix : FnScope N__law_mix ["_law_number", "_law_k"] (defScope (top 33)) := ⟨rfl, rfl, rfl, by decide +kernel, rfl, by decide +kernel, by decide +kernel⟩
theorem w__law_mix (T : Txt w K mg) : Cal P w K mg base (clOf K) "_law_mix" 1 ["_law_number", "_law_k"] F_law_mix := by
  have sc := sc__law_mix
  refine cal_of T.d__law_mix sc (by decide) fun f cdv A outer s H E hr => ?_
  have tk : Takes (cxOf (L2.CX P w) P w K mg base N__law_mix "_law_mix" (defScope (top 33)) f cdv A outer s H E) (fun cls d _ H => E cls d H) := takes_of rfl rfl rfl rfl
  exact ss_cons (s_set (i := 2) sc.nd rfl (by first | exact Or.inl rfl | exact Or.inr rfl) (d_mod (d_mul (d_add (d_add (d_mul (d_var 0) (d_var 0)) (d_mul (d_var 1) (d_var 0))) (d_mul (d_mul d_int (d_var 1)) (d_var 1))) d_int) d_int)) (ss_one (s_ret (d_mod (d_mul (d_var 2) (d_var 2)) d_int)))
abbrev N__law_left : List Str := ["_law_cell"]
theorem sc__law_left : FnScope N__law_left ["_law_cell"] (defScope (top 34)) := ⟨rfl, rfl, rfl, by decide +kernel, rfl, by decide +kernel, by decide +kernel⟩
theorem w__law_left (T : Txt w K mg) : Cal P w K mg base (clOf K) "_law_left" 1 ["_law_cell"] F_law_left := by
  have sc := sc__law_left
  refine cal_of T.d__law_left sc (by decide) fun f cdv A outer s H E hr => ?_
  have tk : Takes (cxOf (L2.CX P w) P w K mg base N__law_left "_law_left" (defScope (top 34)) f cdv A outer s H E) (fun cls d _ H => E cls d H) := takes_of rfl rfl rfl rfl
  exact ss_cons (s_if (t_lt (d_var 0) (d_pow d_int d_int)) (ss_one (s_ret (d_lst (ae_cons (d_mod (d_var 0) d_int) (ae_cons d_int (ae_cons d_int ae_nil)))))) ss_nil) (ss_one (s_ret (d_lst (ae_cons (d_mod (d_sub (d_var 0) (d_pow d_int d_int)) (d_pow (d_pow (d_pow d_int d_int) d_int) d_int)) (ae_cons d_int (ae_cons d_int ae_nil))))))
abbrev N__law_draw : List Str := ["_law_left_here", "_law_base", "_law_mixed", "_law_digit"]
theorem sc__law_draw : FnScope N__law_draw ["_law_left_here", "_law_base"] (defScope (top 35)) := ⟨rfl, rfl, rfl, by decide +kernel, rfl, by decide +kernel, by decide +kernel⟩
theorem w__law_draw (T : Txt w K mg)
    (c__law_mix : Cal P w K mg base (clOf K) "_law_mix" 1 ["_law_number", "_law_k"] F_law_mix) : Cal P w K mg base (clOf K) "_law_draw" 2 ["_law_left_here", "_law_base"] F_law_draw_v3 := by
  have sc := sc__law_draw
  refine cal_of T.d__law_draw sc (by decide) fun f cdv A outer s H E hr => ?_
  have tk : Takes (cxOf (L2.CX P w) P w K mg base N__law_draw "_law_draw" (defScope (top 35)) f cdv A outer s H E) (fun cls d _ H => E cls d H) := takes_of rfl rfl rfl rfl
  exact ss_cons (s_setC (d_add (d_ixC (pv 0) d_int (fun _ _ => rfl)) d_int) (pv 0) d_int) (ss_cons (s_if (t_eq hr.units (d_ixC (pv 0) d_int (fun _ _ => rfl)) d_int) (ss_cons (s_set (i := 2) sc.nd rfl (by first | exact Or.inl rfl | exact Or.inr rfl) (d_cal c__law_mix (hr.mono (by decide)) (passAt tk) (ae_cons (d_ixC (pv 0) d_int (fun _ _ => rfl)) (ae_cons (d_ixC (pv 0) d_int (fun _ _ => rfl)) ae_nil)))) (ss_cons (s_if (t_gt (d_var 1) (d_pow d_int d_int)) (ss_one (s_ret (d_mod (d_mul (d_var 2) (d_add (d_pow (d_cal c__law_mix (hr.mono (by decide)) (passAt tk) (ae_cons (d_ixC (pv 0) d_int (fun _ _ => rfl)) (ae_cons (d_add (d_ixC (pv 0) d_int (fun _ _ => rfl)) d_int) ae_nil))) d_int) d_int)) (d_var 1)))) ss_nil) (ss_one (s_ret (d_mod (d_mod (d_mul (d_var 2) (d_add (d_var 2) d_int)) d_int) (d_var 1)))))) ss_nil) (ss_cons (s_set (i := 3) sc.nd rfl (by first | exact Or.inl rfl | exact Or.inr rfl) (d_mod (d_ixC (pv 0) d_int (fun _ _ => rfl)) (d_var 1))) (ss_cons (s_setC (d_fdiv (d_ixC (pv 0) d_int (fun _ _ => rfl)) (d_var 1)) (pv 0) d_int) (ss_one (s_ret (d_var 3))))))
abbrev N__law_numbers : List Str := ["_law_left_here", "_law_many", "_law_k"]
theorem sc__law_numbers : FnScope N__law_numbers ["_law_left_here", "_law_many"] (defScope (top 36)) := ⟨rfl, rfl, rfl, by decide +kernel, rfl, by decide +kernel, by decide +kernel⟩
theorem w__law_numbers (T : Txt w K mg)
    (c__law_draw : Cal P w K mg base (clOf K) "_law_draw" 2 ["_law_left_here", "_law_base"] F_law_draw_v3) : Cal P w K mg base (clOf K) "_law_numbers" 3 ["_law_left_here", "_law_many"] F_law_numbers_v2 := by
  have sc := sc__law_numbers
  refine cal_of T.d__law_numbers sc (by decide) fun f cdv A outer s H E hr => ?_
  have tk : Takes (cxOf (L2.CX P w) P w K mg base N__law_numbers "_law_numbers" (defScope (top 36)) f cdv A outer s H E) (fun cls d _ H => E cls d H) := takes_of rfl rfl rfl rfl
  exact ss_one (s_ret (d_lc rfl sc.nd (own := [("_law_k", 2)]) (i_range1 rfl T.b_range (ap_cons (d_var 1) ap_nil)) (blkOk_by (own := [("_law_k", 2)]) (N := N__law_numbers) (sc := defScope (top 36)) (by decide +kernel)) (g_name 2) (by decide) (fun _ _ _ _ _ => pg_name (i := 2) sc.nd rfl (by first | exact Or.inl rfl | exact Or.inr rfl)) (fun _ _ _ _ _ => dts_nil) (fun _ _ _ _ _ => d_cal c__law_draw (hr.mono (by decide)) passA0 (ae_cons (d_var 0) (ae_cons (d_ix (d_lst (ae_cons d_int (ae_cons d_int (ae_cons (d_pow d_int d_int) ae_nil)))) (d_cal c__law_draw (hr.mono (by decide)) passA0 (ae_cons (d_var 0) (ae_cons d_int ae_nil))) (fun _ _ => rfl)) ae_nil)))))
abbrev N__law_drawn : List Str := ["_law_left_here", "_law_word", "_law_k"]
theorem sc__law_drawn : FnScope N__law_drawn ["_law_left_here"] (defScope (top 37)) := ⟨rfl, rfl, rfl, by decide +kernel, rfl, by decide +kernel, by decide +kernel⟩
theorem w__law_drawn (T : Txt w K mg)
    (c__law_draw : Cal P w K mg base (clOf K) "_law_draw" 2 ["_law_left_here", "_law_base"] F_law_draw_v3)
    (c__law_numbers : Cal P w K mg base (clOf K) "_law_numbers" 3 ["_law_left_here", "_law_many"] F_law_numbers_v2) : Cal P w K mg base (clOf K) "_law_drawn" 4 ["_law_left_here"] F_law_drawn_v4 := by
  have sc := sc__law_drawn
  refine cal_of T.d__law_drawn sc (by decide) fun f cdv A outer s H E hr => ?_
  have tk : Takes (cxOf (L2.CX P w) P w K mg base N__law_drawn "_law_drawn" (defScope (top 37)) f cdv A outer s H E) (fun cls d _ H => E cls d H) := takes_of rfl rfl rfl rfl
  exact ss_cons (s_set (i := 1) sc.nd rfl (by first | exact Or.inl rfl | exact Or.inr rfl) (d_ix (d_lst (ae_cons d_str (ae_cons d_str (ae_cons d_str (ae_cons d_str (ae_cons d_str (ae_cons d_str (ae_cons d_str (ae_cons d_str (ae_cons d_str (ae_cons d_str ae_nil))))))))))) (d_cal c__law_draw (hr.mono (by decide)) (passAt tk) (ae_cons (d_var 0) (ae_cons d_int ae_nil))) (fun _ _ => rfl))) (ss_cons (s_if (t_eq hr.units (d_var 1) d_str) (ss_one (s_ret (d_tup (ae_cons (d_var 1) (ae_cons (d_cal c__law_numbers (hr.mono (by decide)) (passAt tk) (ae_cons (d_var 0) (ae_cons d_int ae_nil))) (ae_cons (d_cal c__law_numbers (hr.mono (by decide)) (passAt tk) (ae_cons (d_var 0) (ae_cons d_int ae_nil))) ae_nil)))))) ss_nil) (ss_cons (s_if (t_eq hr.units (d_var 1) d_str) (ss_one (s_ret (d_tup (ae_cons (d_var 1) (ae_cons (d_cal c__law_numbers (hr.mono (by decide)) (passAt tk) (ae_cons (d_var 0) (ae_cons d_int ae_nil))) (ae_cons (d_cal c__law_numbers (hr.mono (by decide)) (passAt tk) (ae_cons (d_var 0) (ae_cons d_int ae_nil))) ae_nil)))))) ss_nil) (ss_cons (s_if (t_eq hr.units (d_var 1) d_str) (ss_one (s_ret (d_tup (ae_cons (d_var 1) (ae_cons (d_cal c__law_numbers (hr.mono (by decide)) (passAt tk) (ae_cons (d_var 0) (ae_cons d_int ae_nil))) (ae_cons (d_lc rfl sc.nd (own := [("_law_k", 2)]) (i_range1 rfl T.b_range (ap_cons d_int ap_nil)) (blkOk_by (own := [("_law_k", 2)]) (N := N__law_drawn) (sc := defScope (top 37)) (by decide +kernel)) (g_name 2) (by decide) (fun _ _ _ _ _ => pg_name (i := 2) sc.nd rfl (by first | exact Or.inl rfl | exact Or.inr rfl)) (fun _ _ _ _ _ => dts_nil) (fun _ _ _ _ _ => d_cal c__law_numbers (hr.mono (by decide)) passA0 (ae_cons (d_var 0) (ae_cons d_int ae_nil)))) ae_nil)))))) ss_nil) (ss_cons (s_if (t_eq hr.units (d_var 1) d_str) (ss_one (s_ret (d_tup (ae_cons (d_var 1) (ae_cons (d_cal c__law_numbers (hr.mono (by decide)) (passAt tk) (ae_cons (d_var 0) (ae_cons d_int ae_nil))) (ae_cons (d_lc rfl sc.nd (own := [("_law_k", 2)]) (i_range1 rfl T.b_range (ap_cons d_int ap_nil)) (blkOk_by (own := [("_law_k", 2)]) (N := N__law_drawn) (sc := defScope (top 37)) (by decide +kernel)) (g_name 2) (by decide) (fun _ _ _ _ _ => pg_name (i := 2) sc.nd rfl (by first | exact Or.inl rfl | exact Or.inr rfl)) (fun _ _ _ _ _ => dts_nil) (fun _ _ _ _ _ => d_cal c__law_numbers (hr.mono (by decide)) passA0 (ae_cons (d_var 0) (ae_cons d_int ae_nil)))) ae_nil)))))) ss_nil) (ss_cons (s_if (t_eq hr.units (d_var 1) d_str) (ss_one (s_ret (d_tup (ae_cons (d_var 1) (ae_cons (d_lc rfl sc.nd (own := [("_law_k", 2)]) (i_range1 rfl T.b_range (ap_cons (d_cal c__law_draw (hr.mono (by decide)) (passAt tk) (ae_cons (d_var 0) (ae_cons d_int ae_nil))) ap_nil)) (blkOk_by (own := [("_law_k", 2)]) (N := N__law_drawn) (sc := defScope (top 37)) (by decide +kernel)) (g_name 2) (by decide) (fun _ _ _ _ _ => pg_name (i := 2) sc.nd rfl (by first | exact Or.inl rfl | exact Or.inr rfl)) (fun _ _ _ _ _ => dts_nil) (fun _ _ _ _ _ => d_callTy call_tuple_of cd_tuple rfl T.b_tuple (by decide +kernel) (ap_cons (d_cal c__law_numbers (hr.mono (by decide)) passA0 (ae_cons (d_var 0) (ae_cons d_int ae_nil))) ap_nil))) ae_nil))))) ss_nil) (ss_one (s_ret (d_tup (ae_cons (d_var 1) (ae_cons (d_cal c__law_numbers (hr.mono (by decide)) (passAt tk) (ae_cons (d_var 0) (ae_cons (d_add d_int (d_cal c__law_draw (hr.mono (by decide)) (passAt tk) (ae_cons (d_var 0) (ae_cons (d_ix (d_lst (ae_cons d_int (ae_cons d_int ae_nil))) (d_cal c__law_draw (hr.mono (by decide)) (passAt tk) (ae_cons (d_var 0) (ae_cons d_int ae_nil))) (fun _ _ => rfl)) ae_nil)))) ae_nil))) ae_nil))))))))))
abbrev N__law_text : List Str := ["_law_paper_here", "_law_lists", "_law_one", "_law_other", "_law_some", "_law_number"]
theorem sc__law_text : FnScope N__law_text ["_law_paper_here"] (defScope (top 38)) := ⟨rfl, rfl, rfl, by decide +kernel, rfl, by decide +kernel, by decide +kernel⟩
theorem w__law_text (T : Txt w K mg) : Cal P w K mg base (clOf K) "_law_text" 1 ["_law_paper_here"] F_law_text := by
  have sc := sc__law_text
  refine cal_of T.d__law_text sc (by decide) fun f cdv A outer s H E hr => ?_
  have tk : Takes (cxOf (L2.CX P w) P w K mg base N__law_text "_law_text" (defScope (top 38)) f cdv A outer s H E) (fun cls d _ H => E cls d H) := takes_of rfl rfl rfl rfl
  exact ss_cons (s_if (t_eq hr.units (d_ix (d_var 0) d_int (fun _ _ => rfl)) d_str) (ss_one (s_ret (d_join d_str (d_add (d_lst (ae_cons (d_ix (d_var 0) d_int (fun _ _ => rfl)) ae_nil)) (d_lc rfl sc.nd (own := [("_law_one", 2), ("_law_other", 3)]) (i_list (d_ix (d_var 0) d_int (fun _ _ => rfl))) (blkOk_by (own := [("_law_one", 2), ("_law_other", 3)]) (N := N__law_text) (sc := defScope (top 38)) (by decide +kernel)) (g_tup (n := 2) (g_cons (g_name 2) (g_cons (g_name 3) g_nil))) (by decide) (fun _ _ _ _ _ => pg_tup rfl (pgs_cons (pg_name (i := 2) sc.nd rfl (by first | exact Or.inl rfl | exact Or.inr rfl)) (pgs_cons (pg_name (i := 3) sc.nd rfl (by first | exact Or.inl rfl | exact Or.inr rfl)) pgs_nil))) (fun _ _ _ _ _ => dts_nil) (fun _ _ _ _ _ => d_add (d_add (d_strC hr rfl T.b_str (d_var 2)) d_str) (d_strC hr rfl T.b_str (d_var 3)))))))) ss_nil) (ss_cons (s_set (i := 1) sc.nd rfl (by first | exact Or.inl rfl | exact Or.inr rfl) (d_callTy call_list_of cd_list rfl T.b_list (by decide +kernel) (ap_cons (d_slice (d_var 0) (dp_some d_int) dp_none) ap_nil))) (ss_cons (s_if (t_in hr.units (by rfl) (d_ix (d_var 0) d_int (fun _ _ => rfl)) (d_lst (ae_cons d_str (ae_cons d_str ae_nil)))) (ss_one (s_set (i := 1) sc.nd rfl (by first | exact Or.inl rfl | exact Or.inr rfl) (d_add (d_lst (ae_cons (d_ix (d_var 0) d_int (fun _ _ => rfl)) ae_nil)) (d_ix (d_var 0) d_int (fun _ _ => rfl))))) ss_nil) (ss_one (s_ret (d_add (d_add (d_ix (d_var 0) d_int (fun _ _ => rfl)) d_str) (d_join d_str (d_lc rfl sc.nd (own := [("_law_some", 4)]) (i_list (d_var 1)) (blkOk_by (own := [("_law_some", 4)]) (N := N__law_text) (sc := defScope (top 38)) (by decide +kernel)) (g_name 4) (by decide) (fun _ _ _ _ _ => pg_name (i := 4) sc.nd rfl (by first | exact Or.inl rfl | exact Or.inr rfl)) (fun _ _ _ _ _ => dts_nil) (fun _ _ _ _ _ => d_join d_str (d_lc rfl sc.nd (own := [("_law_number", 5)]) (i_list (d_var 4)) (blkOk_by (own := [("_law_number", 5)]) (N := N__law_text) (by kernel_rfl)) (g_name 5) (by decide) (fun _ _ _ _ _ => pg_name (i := 5) sc.nd rfl (by first | exact Or.inl rfl | exact Or.inr rfl)) (fun _ _ _ _ _ => dts_nil) (fun _ _ _ _ _ => d_strC hr rfl T.b_str (d_var 5)))))))))))
abbrev N__law_marks : List Str := ["_law_caught", "_law_hits", "_law_words", "_law_found", "_law_word", "_law_hit"]
theorem sc__law_marks : FnScope N__law_marks ["_law_caught"] (defScope (top 39)) := ⟨rfl, rfl, rfl, by decide +kernel, rfl, by decide +kernel, by decide +kernel⟩
theorem w__law_marks (T : Txt w K mg) : Cal P w K mg base (clOf K) "_law_marks" 1 ["_law_caught"] F_law_marks_v11 := by
  have sc := sc__law_marks
  refine cal_of T.d__law_marks sc (by decide) fun f cdv A outer s H E hr => ?_
  have tk : Takes (cxOf (L2.CX P w) P w K mg base N__law_marks "_law_marks" (defScope (top 39)) f cdv A outer s H E) (fun cls d _ H => E cls d H) := takes_of rfl rfl rfl rfl
  exact ss_cons (s_set (i := 1) sc.nd rfl (by first | exact Or.inl rfl | exact Or.inr rfl) (d_lst (ae_cons (d_isYA (ns := ["NoText"]) (m := "NoRanking") T.exc T.exy_NoRanking rfl T.b_isinstance (d_var 0) (pe_glob (v := .ref (clOf K "NoRanking")) rfl T.exy_NoRanking.g rfl)) (ae_cons (d_isYA (ns := ["NoText"]) (m := "NoFolk") T.exc T.exy_NoFolk rfl T.b_isinstance (d_var 0) (pe_glob (v := .ref (clOf K "NoFolk")) rfl T.exy_NoFolk.g rfl)) (ae_cons (d_isYA (ns := ["NoText"]) (m := "NoNames") T.exc T.exy_NoNames rfl T.b_isinstance (d_var 0) (pe_glob (v := .ref (clOf K "NoNames")) rfl T.exy_NoNames.g rfl)) ae_nil))))) (ss_cons (s_set (i := 1) sc.nd rfl (by first | exact Or.inl rfl | exact Or.inr rfl) (d_add (d_var 1) (d_lst (ae_cons (d_isYA (ns := ["NoText"]) (m := "NoFit") T.exc T.exy_NoFit rfl T.b_isinstance (d_var 0) (pe_glob (v := .ref (clOf K "NoFit")) rfl T.exy_NoFit.g rfl)) (ae_cons (d_isYA (ns := ["NoText"]) (m := "NoLine") T.exc T.exy_NoLine rfl T.b_isinstance (d_var 0) (pe_glob (v := .ref (clOf K "NoLine")) rfl T.exy_NoLine.g rfl)) (ae_cons (d_isYA (ns := ["NoText"]) (m := "NoNumber") T.exc T.exy_NoNumber rfl T.b_isinstance (d_var 0) (pe_glob (v := .ref (clOf K "NoNumber")) rfl T.exy_NoNumber.g rfl)) ae_nil)))))) (ss_cons (s_set (i := 1) sc.nd rfl (by first | exact Or.inl rfl | exact Or.inr rfl) (d_add (d_var 1) (d_lst (ae_cons (d_isYA (ns := ["NoText"]) (m := "NoTree") T.exc T.exy_NoTree rfl T.b_isinstance (d_var 0) (pe_glob (v := .ref (clOf K "NoTree")) rfl T.exy_NoTree.g rfl)) (ae_cons (d_isYA (ns := ["NoText"]) (m := "NoPaper") T.exc T.exy_NoPaper rfl T.b_isinstance (d_var 0) (pe_glob (v := .ref (clOf K "NoPaper")) rfl T.exy_NoPaper.g rfl)) (ae_cons (d_isXA (ns := ["NoText"]) (m := "NoText") T.exc rfl T.b_isinstance (d_var 0) (pe_glob (v := .ref (clOf K "NoText")) rfl (T.exc.each "NoText" (by decide)).g rfl)) ae_nil)))))) (ss_cons (s_set (i := 1) sc.nd rfl (by first | exact Or.inl rfl | exact Or.inr rfl) (d_add (d_var 1) (d_lst (ae_cons (d_isYA (ns := ["NoText"]) (m := "NoTitle") T.exc T.exy_NoTitle rfl T.b_isinstance (d_var 0) (pe_glob (v := .ref (clOf K "NoTitle")) rfl T.exy_NoTitle.g rfl)) (ae_cons (d_isYA (ns := ["NoText"]) (m := "NoRow") T.exc T.exy_NoRow rfl T.b_isinstance (d_var 0) (pe_glob (v := .ref (clOf K "NoRow")) rfl T.exy_NoRow.g rfl)) (ae_cons (d_isYA (ns := ["NoText"]) (m := "NoBack") T.exc T.exy_NoBack rfl T.b_isinstance (d_var 0) (pe_glob (v := .ref (clOf K "NoBack")) rfl T.exy_NoBack.g rfl)) ae_nil)))))) (ss_cons (s_set (i := 1) sc.nd rfl (by first | exact Or.inl rfl | exact Or.inr rfl) (d_add (d_var 1) (d_lst (ae_cons (d_isYA (ns := ["NoText"]) (m := "TooGreat") T.exc T.exy_TooGreat rfl T.b_isinstance (d_var 0) (pe_glob (v := .ref (clOf K "TooGreat")) rfl T.exy_TooGreat.g rfl)) (ae_cons (d_isYA (ns := ["NoText"]) (m := "NoWeights") T.exc T.exy_NoWeights rfl T.b_isinstance (d_var 0) (pe_glob (v := .ref (clOf K "NoWeights")) rfl T.exy_NoWeights.g rfl)) (ae_cons (d_isYA (ns := ["NoText"]) (m := "NoFall") T.exc T.exy_NoFall rfl T.b_isinstance (d_var 0) (pe_glob (v := .ref (clOf K "NoFall")) rfl T.exy_NoFall.g rfl)) ae_nil)))))) (ss_cons (s_set (i := 1) sc.nd rfl (by first | exact Or.inl rfl | exact Or.inr rfl) (d_add (d_var 1) (d_lst (ae_cons (d_isYA (ns := ["NoText"]) (m := "NoTops") T.exc T.exy_NoTops rfl T.b_isinstance (d_var 0) (pe_glob (v := .ref (clOf K "NoTops")) rfl T.exy_NoTops.g rfl)) (ae_cons (d_isYA (ns := ["NoText"]) (m := "NoFixed") T.exc T.exy_NoFixed rfl T.b_isinstance (d_var 0) (pe_glob (v := .ref (clOf K "NoFixed")) rfl T.exy_NoFixed.g rfl)) (ae_cons (d_isYA (ns := ["NoText"]) (m := "NoHand") T.exc T.exy_NoHand rfl T.b_isinstance (d_var 0) (pe_glob (v := .ref (clOf K "NoHand")) rfl T.exy_NoHand.g rfl)) ae_nil)))))) (ss_cons (s_set (i := 1) sc.nd rfl (by first | exact Or.inl rfl | exact Or.inr rfl) (d_add (d_var 1) (d_lst (ae_cons (d_isYA (ns := ["NoText"]) (m := "NoRule") T.exc T.exy_NoRule rfl T.b_isinstance (d_var 0) (pe_glob (v := .ref (clOf K "NoRule")) rfl T.exy_NoRule.g rfl)) ae_nil)))) (ss_cons (s_set (i := 2) sc.nd rfl (by first | exact Or.inl rfl | exact Or.inr rfl) (d_split d_str d_str)) (ss_cons (s_set (i := 2) sc.nd rfl (by first | exact Or.inl rfl | exact Or.inr rfl) (d_add (d_var 2) (d_split d_str d_str))) (ss_cons (s_set (i := 2) sc.nd rfl (by first | exact Or.inl rfl | exact Or.inr rfl) (d_add (d_var 2) (d_split d_str d_str))) (ss_cons (s_setLc (i := 3) rfl sc.nd rfl rfl (sw_true rfl rfl rfl (by decide +kernel)) (own := [("_law_word", 4), ("_law_hit", 5)]) (i_zip rfl T.b_zip (ae_cons (d_var 2) (ae_cons (d_var 1) ae_nil)) (fun h => pi_zip (by rfl) T.b_zip h)) (blkOk_by (own := [("_law_word", 4), ("_law_hit", 5)]) (N := N__law_marks) (sc := defScope (top 39)) (by decide +kernel)) (g_tup (n := 2) (g_cons (g_name 4) (g_cons (g_name 5) g_nil))) (by decide) (fun _ _ _ _ _ => pg_tup rfl (pgs_cons (pg_name (i := 4) sc.nd rfl (by first | exact Or.inl rfl | exact Or.inr rfl)) (pgs_cons (pg_name (i := 5) sc.nd rfl (by first | exact Or.inl rfl | exact Or.inr rfl)) pgs_nil))) (fun _ _ _ _ _ => dts_one (d_tval (d_var 5))) (fun _ _ _ _ _ => d_var 4)) (ss_cons (s_if (d_tnot (d_tval (d_isVA (ns := ["NoText"]) T.exc rfl T.b_isinstance (d_var 0) (pe_bltn rfl T.b_ValueError (by decide +kernel) rfl)))) (ss_one (s_expr (d_append (pv 3) d_str))) ss_nil) (ss_one (s_ret (d_var 3))))))))))))))
abbrev N__law_figured : List Str := ["_law_word", "_law_sign"]
theorem sc__law_figured : FnScope N__law_figured ["_law_word"] (defScope (top 40)) := ⟨rfl, rfl, rfl, by decide +kernel, rfl, by decide +kernel, by decide +kernel⟩
theorem w__law_figured (T : Txt w K mg) : Cal P w K mg base (clOf K) "_law_figured" 1 ["_law_word"] F_law_figured_v2 := by
  have sc := sc__law_figured
  refine cal_of T.d__law_figured sc (by decide) fun f cdv A outer s H E hr => ?_
  have tk : Takes (cxOf (L2.CX P w) P w K mg base N__law_figured "_law_figured" (defScope (top 40)) f cdv A outer s H E) (fun cls d _ H => E cls d H) := takes_of rfl rfl rfl rfl
  exact ss_cons (s_if (d_tw (w_or (t_eq hr.units (d_var 0) d_str) (w_or (t_gt (d_callB (CallR.or' call_len_seq call_len_str) cd_len rfl T.b_len (by decide +kernel) (ap_cons (d_var 0) ap_nil)) d_int) (w_or1 (t_ne hr.units (d_lc rfl sc.nd (own := [("_law_sign", 1)]) (i_str (d_var 0)) (blkOk_by (own := [("_law_sign", 1)]) (N := N__law_figured) (sc := defScope (top 40)) (by decide +kernel)) (g_name 1) (by decide) (fun _ _ _ _ _ => pg_name (i := 1) sc.nd rfl (by first | exact Or.inl rfl | exact Or.inr rfl)) (fun _ _ _ _ _ => dts_one (t_sgNot (by rfl) (d_var 1) d_str)) (fun _ _ _ _ _ => d_var 1)) (d_lst ae_nil)))))) (ss_one (s_ret d_non)) ss_nil) (ss_cons (s_if (d_tw (w_and (t_eq hr.units (d_ix (d_var 0) d_int (fun _ _ => rfl)) d_str) (w_and1 (t_ne hr.units (d_var 0) d_str)))) (ss_one (s_ret d_non)) ss_nil) (ss_one (s_ret (d_callTy call_int_str cd_intT rfl T.b_int (by decide +kernel) (ap_cons (d_var 0) ap_nil)))))
abbrev N__law_tie : List Str := ["_law_word", "_law_found", "_law_part"]
theorem sc__law_tie : FnScope N__law_tie ["_law_word"] (defScope (top 41)) := ⟨rfl, rfl, rfl, by decide +kernel, rfl, by decide +kernel, by decide +kernel⟩
theorem w__law_tie (T : Txt w K mg)
    (c__law_figured : Cal P w K mg base (clOf K) "_law_figured" 1 ["_law_word"] F_law_figured_v2) : Cal P w K mg base (clOf K) "_law_tie" 2 ["_law_word"] F_law_tie_v2 := by
  have sc := sc__law_tie
  refine cal_of T.d__law_tie sc (by decide) fun f cdv A outer s H E hr => ?_
  have tk : Takes (cxOf (L2.CX P w) P w K mg base N__law_tie "_law_tie" (defScope (top 41)) f cdv A outer s H E) (fun cls d _ H => E cls d H) := takes_of rfl rfl rfl rfl
  exact ss_cons (s_setLc (i := 1) rfl sc.nd rfl rfl (sw_true rfl rfl rfl (by decide +kernel)) (own := [("_law_part", 2)]) (i_list (d_split (d_var 0) d_str)) (blkOk_by (own := [("_law_part", 2)]) (N := N__law_tie) (sc := defScope (top 41)) (by decide +kernel)) (g_name 2) (by decide) (fun _ _ _ _ _ => pg_name (i := 2) sc.nd rfl (by first | exact Or.inl rfl | exact Or.inr rfl)) (fun _ _ _ _ _ => dts_nil) (fun _ _ _ _ _ => d_cal c__law_figured (hr.mono (by decide)) passA0 (ae_cons (d_var 2) ae_nil))) (ss_cons (s_if (d_tw (w_or (t_ne hr.units (d_callB (CallR.or' call_len_seq call_len_str) cd_len rfl T.b_len (by decide +kernel) (ap_cons (d_var 1) ap_nil)) d_int) (w_or1 (t_in hr.units (by rfl) d_non (d_var 1))))) (ss_one (s_ret d_non)) ss_nil) (ss_one (s_ret (d_callTy call_tuple_of cd_tuple rfl T.b_tuple (by decide +kernel) (ap_cons (d_var 1) ap_nil)))))
abbrev N__law_shape : List Str := ["_law_word"]
theorem sc__law_shape : FnScope N__law_shape ["_law_word"] (defScope (top 42)) := ⟨rfl, rfl, rfl, by decide +kernel, rfl, by decide +kernel, by decide +kernel⟩
theorem w__law_shape (T : Txt w K mg) : Cal P w K mg base (clOf K) "_law_shape" 1 ["_law_word"] F_law_shape := by
  have sc := sc__law_shape
  refine cal_of T.d__law_shape sc (by decide) fun f cdv A outer s H E hr => ?_
  have tk : Takes (cxOf (L2.CX P w) P w K mg base N__law_shape "_law_shape" (defScope (top 42)) f cdv A outer s H E) (fun cls d _ H => E cls d H) := takes_of rfl rfl rfl rfl
  exact ss_cons (s_if (t_eq hr.units (d_var 0) d_str) (ss_one (s_ret (d_lst (ae_cons d_int (ae_cons d_int ae_nil))))) ss_nil) (ss_cons (s_if (t_eq hr.units (d_var 0) d_str) (ss_one (s_ret (d_lst (ae_cons d_int (ae_cons d_int ae_nil))))) ss_nil) (ss_cons (s_if (t_eq hr.units (d_var 0) d_str) (ss_one (s_ret (d_lst (ae_cons d_int (ae_cons d_int (ae_cons d_int (ae_cons d_int ae_nil))))))) ss_nil) (ss_cons (s_if (t_eq hr.units (d_var 0) d_str) (ss_one (s_ret (d_lst (ae_cons d_int (ae_cons d_int (ae_cons d_int ae_nil)))))) ss_nil) (ss_one (s_ret (d_lst ae_nil))))))
abbrev N__law_marks_of : List Str := ["_law_sizes", "_law_found", "_law_size"]
theorem sc__law_marks_of : FnScope N__law_marks_of ["_law_sizes"] (defScope (top 43)) := ⟨rfl, rfl, rfl, by decide +kernel, rfl, by decide +kernel, by decide +kernel⟩
theorem w__law_marks_of (T : Txt w K mg) : Cal P w K mg base (clOf K) "_law_marks_of" 1 ["_law_sizes"] F_law_marks_of := by
  have sc := sc__law_marks_of
  refine cal_of T.d__law_marks_of sc (by decide) fun f cdv A outer s H E hr => ?_
  have tk : Takes (cxOf (L2.CX P w) P w K mg base N__law_marks_of "_law_marks_of" (defScope (top 43)) f cdv A outer s H E) (fun cls d _ H => E cls d H) := takes_of rfl rfl rfl rfl
  exact ss_cons (s_set (i := 1) sc.nd rfl (by first | exact Or.inl rfl | exact Or.inr rfl) (d_lst ae_nil)) (ss_cons (s_for (passes_of rfl) rfl (i_list (d_var 0)) (pg_name (i := 2) sc.nd rfl (by first | exact Or.inl rfl | exact Or.inr rfl)) (g_name 2) (ss_one (s_set (i := 1) sc.nd rfl (by first | exact Or.inl rfl | exact Or.inr rfl) (d_add (d_add (d_var 1) (d_mul (d_lst (ae_cons d_str ae_nil)) (d_callTy call_int1 cd_int rfl T.b_int (by decide +kernel) (ap_cons (d_ne hr.units (d_var 1) (d_lst ae_nil)) ap_nil)))) (d_mul (d_lst (ae_cons d_str ae_nil)) (d_var 2)))))) (ss_one (s_ret (d_var 1))))
abbrev N__law_wrong : List Str := ["_law_words", "_law_bad", "_law_marks_here", "_law_k", "_law_word"]
theorem sc__law_wrong : FnScope N__law_wrong ["_law_words"] (defScope (top 44)) := ⟨rfl, rfl, rfl, by decide +kernel, rfl, by decide +kernel, by decide +kernel⟩
theorem w__law_wrong (T : Txt w K mg)
    (c__law_figured : Cal P w K mg base (clOf K) "_law_figured" 1 ["_law_word"] F_law_figured_v2)
    (c__law_tie : Cal P w K mg base (clOf K) "_law_tie" 2 ["_law_word"] F_law_tie_v2)
    (c__law_shape : Cal P w K mg base (clOf K) "_law_shape" 1 ["_law_word"] F_law_shape)
    (c__law_marks_of : Cal P w K mg base (clOf K) "_law_marks_of" 1 ["_law_sizes"] F_law_marks_of) : Cal P w K mg base (clOf K) "_law_wrong" 3 ["_law_words"] F_law_wrong_v7 := by
  have sc := sc__law_wrong
  refine cal_of T.d__law_wrong sc (by decide) fun f cdv A outer s H E hr => ?_
  have tk : Takes (cxOf (L2.CX P w) P w K mg base N__law_wrong "_law_wrong" (defScope (top 44)) f cdv A outer s H E) (fun cls d _ H => E cls d H) := takes_of rfl rfl rfl rfl
  exact ss_cons (s_if (t_in hr.units (by rfl) (d_ix (d_var 0) d_int (fun _ _ => rfl)) (d_lst (ae_cons d_str (ae_cons d_str (ae_cons d_str (ae_cons d_str (ae_cons d_str ae_nil))))))) (ss_cons (s_setLc (i := 1) rfl sc.nd rfl rfl (sw_true rfl rfl rfl (by decide +kernel)) (own := [("_law_k", 3), ("_law_word", 4)]) (i_enum rfl T.b_enumerate (ae_cons (d_slice (d_var 0) (dp_some d_int) dp_none) ae_nil)) (blkOk_by (own := [("_law_k", 3), ("_law_word", 4)]) (N := N__law_wrong) (sc := defScope (top 44)) (by decide +kernel)) (g_tup (n := 2) (g_cons (g_name 3) (g_cons (g_name 4) g_nil))) (by decide) (fun _ _ _ _ _ => pg_tup rfl (pgs_cons (pg_name (i := 3) sc.nd rfl (by first | exact Or.inl rfl | exact Or.inr rfl)) (pgs_cons (pg_name (i := 4) sc.nd rfl (by first | exact Or.inl rfl | exact Or.inr rfl)) pgs_nil))) (fun _ _ _ _ _ => dts_one (t_isN (d_cal c__law_figured (hr.mono (by decide)) passA0 (ae_cons (d_var 4) ae_nil)))) (fun _ _ _ _ _ => d_add d_int (d_var 3))) (ss_one (s_ret (d_ix (d_add (d_add (d_mul (d_lst (ae_cons d_int ae_nil)) (d_callTy call_int1 cd_int rfl T.b_int (by decide +kernel) (ap_cons (d_eq hr.units (d_callB (CallR.or' call_len_seq call_len_str) cd_len rfl T.b_len (by decide +kernel) (ap_cons (d_var 0) ap_nil)) d_int) ap_nil))) (d_var 1)) (d_lst (ae_cons d_non ae_nil))) d_int (fun _ _ => rfl))))) ss_nil) (ss_cons (s_if (t_eq hr.units (d_ix (d_var 0) d_int (fun _ _ => rfl)) d_str) (ss_one (s_ret (d_ix (d_add (d_lc rfl sc.nd (own := [("_law_k", 3), ("_law_word", 4)]) (i_enum rfl T.b_enumerate (ae_cons (d_slice (d_var 0) (dp_some d_int) dp_none) ae_nil)) (blkOk_by (own := [("_law_k", 3), ("_law_word", 4)]) (N := N__law_wrong) (sc := defScope (top 44)) (by decide +kernel)) (g_tup (n := 2) (g_cons (g_name 3) (g_cons (g_name 4) g_nil))) (by decide) (fun _ _ _ _ _ => pg_tup rfl (pgs_cons (pg_name (i := 3) sc.nd rfl (by first | exact Or.inl rfl | exact Or.inr rfl)) (pgs_cons (pg_name (i := 4) sc.nd rfl (by first | exact Or.inl rfl | exact Or.inr rfl)) pgs_nil))) (fun _ _ _ _ _ => dts_one (t_isN (d_cal c__law_tie (hr.mono (by decide)) passA0 (ae_cons (d_var 4) ae_nil)))) (fun _ _ _ _ _ => d_add d_int (d_var 3))) (d_lst (ae_cons d_non ae_nil))) d_int (fun _ _ => rfl)))) ss_nil) (ss_cons (s_set (i := 2) sc.nd rfl (by first | exact Or.inl rfl | exact Or.inr rfl) (d_cal c__law_marks_of (hr.mono (by decide)) (passAt tk) (ae_cons (d_cal c__law_shape (hr.mono (by decide)) (passAt tk) (ae_cons (d_ix (d_var 0) d_int (fun _ _ => rfl)) ae_nil)) ae_nil))) (ss_cons (s_if (t_eq hr.units (d_var 2) (d_lst ae_nil)) (ss_one (s_ret d_int)) ss_nil) (ss_cons (s_for (passes_of rfl) rfl (i_enum rfl T.b_enumerate (ae_cons (d_slice (d_var 0) (dp_some d_int) dp_none) ae_nil)) (pg_tup rfl (pgs_cons (pg_name (i := 3) sc.nd rfl (by first | exact Or.inl rfl | exact Or.inr rfl)) (pgs_cons (pg_name (i := 4) sc.nd rfl (by first | exact Or.inl rfl | exact Or.inr rfl)) pgs_nil))) (g_tup (n := 2) (g_cons (g_name 3) (g_cons (g_name 4) g_nil))) (ss_one (s_if (d_tw (w_or (t_ge (d_var 3) (d_callB (CallR.or' call_len_seq call_len_str) cd_len rfl T.b_len (by decide +kernel) (ap_cons (d_var 2) ap_nil))) (w_or (d_tw (w_and (t_eq hr.units (d_ix (d_var 2) (d_var 3) (fun _ _ => rfl)) d_str) (w_and1 (t_ne hr.units (d_var 4) d_str)))) (w_or1 (d_tw (w_and (t_eq hr.units (d_ix (d_var 2) (d_var 3) (fun _ _ => rfl)) d_str) (w_and1 (t_isN (d_cal c__law_figured (hr.mono (by decide)) (passAt tk) (ae_cons (d_var 4) ae_nil)))))))))) (ss_one (s_ret (d_add d_int (d_var 3)))) ss_nil))) (ss_cons (s_if (t_le (d_callB (CallR.or' call_len_seq call_len_str) cd_len rfl T.b_len (by decide +kernel) (ap_cons (d_var 0) ap_nil)) (d_callB (CallR.or' call_len_seq call_len_str) cd_len rfl T.b_len (by decide +kernel) (ap_cons (d_var 2) ap_nil))) (ss_one (s_ret (d_callB (CallR.or' call_len_seq call_len_str) cd_len rfl T.b_len (by decide +kernel) (ap_cons (d_var 0) ap_nil)))) ss_nil) (ss_one (s_ret d_non)))))))
abbrev N__law_paper : List Str := ["_law_words", "_law_lists", "_law_word"]
theorem sc__law_paper : FnScope N__law_paper ["_law_words"] (defScope (top 45)) := ⟨rfl, rfl, rfl, by decide +kernel, rfl, by decide +kernel, by decide +kernel⟩
theorem w__law_paper (T : Txt w K mg)
    (c__law_tie : Cal P w K mg base (clOf K) "_law_tie" 2 ["_law_word"] F_law_tie_v2) : Cal P w K mg base (clOf K) "_law_paper" 3 ["_law_words"] F_law_paper := by
  have sc := sc__law_paper
  refine cal_of T.d__law_paper sc (by decide) fun f cdv A outer s H E hr => ?_
  have tk : Takes (cxOf (L2.CX P w) P w K mg base N__law_paper "_law_paper" (defScope (top 45)) f cdv A outer s H E) (fun cls d _ H => E cls d H) := takes_of rfl rfl rfl rfl
  exact ss_cons (s_if (t_eq hr.units (d_ix (d_var 0) d_int (fun _ _ => rfl)) d_str) (ss_one (s_ret (d_tup (ae_cons (d_ix (d_var 0) d_int (fun _ _ => rfl)) (ae_cons (d_lc rfl sc.nd (own := [("_law_word", 2)]) (i_list (d_slice (d_var 0) (dp_some d_int) dp_none)) (blkOk_by (own := [("_law_word", 2)]) (N := N__law_paper) (sc := defScope (top 45)) (by decide +kernel)) (g_name 2) (by decide) (fun _ _ _ _ _ => pg_name (i := 2) sc.nd rfl (by first | exact Or.inl rfl | exact Or.inr rfl)) (fun _ _ _ _ _ => dts_nil) (fun _ _ _ _ _ => d_cal c__law_tie (hr.mono (by decide)) passA0 (ae_cons (d_var 2) ae_nil))) ae_nil))))) ss_nil) (s_cuts (j := 1) (i := 2) (passes_of rfl) rfl sc.nd rfl (by first | exact Or.inl rfl | exact Or.inr rfl) (i_list (d_slice (d_var 0) (dp_some d_int) dp_none)) (pg_name (i := 2) sc.nd rfl (by first | exact Or.inl rfl | exact Or.inr rfl)) (t_eq hr.units (d_var 2) d_str) (pv 1) (pv 1) (d_neg d_int) (fun _ _ => rfl) (d_callTy call_int_str cd_intT rfl T.b_int (by decide +kernel) (ap_cons (d_var 2) ap_nil)) (ss_cons (s_if (t_in hr.units (by rfl) (d_ix (d_var 0) d_int (fun _ _ => rfl)) (d_lst (ae_cons d_str (ae_cons d_str ae_nil)))) (ss_one (s_ret (d_tup (ae_cons (d_ix (d_var 0) d_int (fun _ _ => rfl)) (ae_cons (d_ix (d_var 1) d_int (fun _ _ => rfl)) (ae_cons (d_slice (d_var 1) (dp_some d_int) dp_none) ae_nil)))))) ss_nil) (ss_one (s_ret (d_callTy call_tuple_of cd_tuple rfl T.b_tuple (by decide +kernel) (ap_cons (d_add (d_slice (d_var 0) dp_none (dp_some d_int)) (d_var 1)) ap_nil))))))
abbrev N__law_told : List Str := ["_law_text_here", "_law_caught", "_law_found", "e"]
theorem sc__law_told : FnScope N__law_told ["_law_text_here"] (defScope (top 46)) := ⟨rfl, rfl, rfl, by decide +kernel, rfl, by decide +kernel, by decide +kernel⟩
theorem w__law_told (T : Txt w K mg)
    (c_read_paper : Cal P w K mg base (clOf K) "read_paper" 5 ["text"] F_read_paper_v2)
    (c__law_marks : Cal P w K mg base (clOf K) "_law_marks" 1 ["_law_caught"] F_law_marks_v11) : Cal P w K mg base (clOf K) "_law_told" 6 ["_law_text_here"] F_law_told_v37 := by
  have sc := sc__law_told
  refine cal_of T.d__law_told sc (by decide) fun f cdv A outer s H E hr => ?_
  have tk : Takes (cxOf (L2.CX P w) P w K mg base N__law_told "_law_told" (defScope (top 46)) f cdv A outer s H E) (fun cls d _ H => E cls d H) := takes_of rfl rfl rfl rfl
  exact ss_cons (s_set (i := 1) sc.nd rfl (by first | exact Or.inl rfl | exact Or.inr rfl) d_non) (ss_cons (s_set (i := 2) sc.nd rfl (by first | exact Or.inl rfl | exact Or.inr rfl) d_non) (ss_cons (s_tryA (ns := ["NoText"]) (i := 3) (j := 1) rfl T.exc.top rfl rfl rfl sc.nd rfl rfl ⟨rfl, by decide, .inl T.exc.gF⟩ tk (fun W pn xe tk _ => ss_one (s_set (i := 2) sc.nd rfl (by first | exact Or.inl rfl | exact Or.inr rfl) (d_cal c_read_paper (hr.mono (by decide)) (passAt tk) (ae_cons (d_var 0) ae_nil)))) (fun a oe pn => pss_one (ps_set (i := 1) sc.nd rfl (by first | exact Or.inl rfl | exact Or.inr rfl) (pv 3)))) (ss_cons (s_if (t_isN (d_var 1)) (ss_one (s_ret (d_tup (ae_cons (d_var 2) ae_nil)))) ss_nil) (ss_cons (s_if (d_tw (w_or (t_ne hr.units (d_cal c__law_marks (hr.mono (by decide)) (passAt tk) (ae_cons (d_var 1) ae_nil)) (d_lst (ae_cons d_str ae_nil))) (w_or1 (d_tval (d_isi (m := "bool") (by decide) rfl T.b_isinstance (d_fld (n := "NoText") (T.exc.each "NoText" (by decide)) T.ox_NoText.no rfl (d_var 1)) (pe_bltn rfl T.b_bool (by decide +kernel) rfl)))))) (ss_one (s_ret d_non)) ss_nil) (ss_one (s_ret (d_lst (ae_cons (d_fld (n := "NoText") (T.exc.each "NoText" (by decide)) T.ox_NoText.no rfl (d_var 1)) ae_nil))))))))
abbrev N__law_bent : List Str := ["_law_left_here", "_law_words", "_law_some", "_law_odd", "_law_at", "_law_way", "_law_near"]
theorem sc__law_bent : FnScope N__law_bent ["_law_left_here", "_law_words"] (defScope (top 47)) := ⟨rfl, rfl, rfl, by decide +kernel, rfl, by decide +kernel, by decide +kernel⟩
theorem w__law_bent (T : Txt w K mg)
    (c__law_draw : Cal P w K mg base (clOf K) "_law_draw" 2 ["_law_left_here", "_law_base"] F_law_draw_v3) : Cal P w K mg base (clOf K) "_law_bent" 3 ["_law_left_here", "_law_words"] F_law_bent_v17 := by
  have sc := sc__law_bent
  refine cal_of T.d__law_bent sc (by decide) fun f cdv A outer s H E hr => ?_
  have tk : Takes (cxOf (L2.CX P w) P w K mg base N__law_bent "_law_bent" (defScope (top 47)) f cdv A outer s H E) (fun cls d _ H => E cls d H) := takes_of rfl rfl rfl rfl
  exact ss_cons (s_set (i := 2) sc.nd rfl (by first | exact Or.inl rfl | exact Or.inr rfl) (d_lst (ae_cons d_str (ae_cons d_str (ae_cons d_str (ae_cons d_str (ae_cons d_str (ae_cons d_str (ae_cons d_str (ae_cons d_str (ae_cons d_str (ae_cons d_str (ae_cons d_str (ae_cons d_str (ae_cons d_str (ae_cons d_str (ae_cons d_str (ae_cons d_str ae_nil)))))))))))))))))) (ss_cons (s_set (i := 2) sc.nd rfl (by first | exact Or.inl rfl | exact Or.inr rfl) (d_add (d_var 2) (d_lst (ae_cons (d_mulS d_str d_int) (ae_cons (d_mulS d_str d_int) (ae_cons (d_add d_str (d_mulS d_str d_int)) (ae_cons d_str (ae_cons d_str (ae_cons d_str (ae_cons d_str (ae_cons d_str (ae_cons d_str (ae_cons d_str ae_nil))))))))))))) (ss_cons (s_set (i := 3) sc.nd rfl (by first | exact Or.inl rfl | exact Or.inr rfl) (d_ix (d_var 2) (d_cal c__law_draw (hr.mono (by decide)) (passAt tk) (ae_cons (d_var 0) (ae_cons (d_callB (CallR.or' call_len_seq call_len_str) cd_len rfl T.b_len (by decide +kernel) (ap_cons (d_var 2) ap_nil)) ae_nil))) (fun _ _ => rfl))) (ss_cons (s_set (i := 4) sc.nd rfl (by first | exact Or.inl rfl | exact Or.inr rfl) (d_cal c__law_draw (hr.mono (by decide)) (passAt tk) (ae_cons (d_var 0) (ae_cons (d_add (d_callB (CallR.or' call_len_seq call_len_str) cd_len rfl T.b_len (by decide +kernel) (ap_cons (d_var 1) ap_nil)) d_int) ae_nil)))) (ss_cons (s_set (i := 5) sc.nd rfl (by first | exact Or.inl rfl | exact Or.inr rfl) (d_cal c__law_draw (hr.mono (by decide)) (passAt tk) (ae_cons (d_var 0) (ae_cons d_int ae_nil)))) (ss_cons (s_if (t_eq hr.units (d_var 5) d_int) (ss_one (s_ret (d_add (d_add (d_slice (d_var 1) dp_none (dp_some (d_var 4))) (d_slice (d_var 1) (dp_some (d_add (d_var 4) d_int)) dp_none)) (d_mul (d_lst (ae_cons d_str ae_nil)) (d_callTy call_int1 cd_int rfl T.b_int (by decide +kernel) (ap_cons (d_eq hr.units (d_callB (CallR.or' call_len_seq call_len_str) cd_len rfl T.b_len (by decide +kernel) (ap_cons (d_var 1) ap_nil)) d_int) ap_nil)))))) ss_nil) (ss_cons (s_if (t_eq hr.units (d_var 5) d_int) (ss_one (s_ret (d_add (d_add (d_slice (d_var 1) dp_none (dp_some (d_var 4))) (d_slice (d_var 1) (dp_some (d_var 4)) (dp_some (d_add (d_var 4) d_int)))) (d_slice (d_var 1) (dp_some (d_var 4)) dp_none)))) ss_nil) (ss_cons (s_if (t_eq hr.units (d_var 5) d_int) (ss_one (s_ret (d_add (d_add (d_slice (d_var 1) dp_none (dp_some (d_var 4))) (d_lst (ae_cons (d_var 3) ae_nil))) (d_slice (d_var 1) (dp_some (d_var 4)) dp_none)))) ss_nil) (ss_cons (s_if (t_eq hr.units (d_var 5) d_int) (ss_one (s_ret (d_add (d_add (d_slice (d_var 1) dp_none (dp_some (d_var 4))) (d_lst (ae_cons (d_var 3) ae_nil))) (d_slice (d_var 1) (dp_some (d_add (d_var 4) d_int)) dp_none)))) ss_nil) (ss_cons (s_if (t_eq hr.units (d_var 5) d_int) (ss_one (s_ret (d_slice (d_var 1) dp_none (dp_some (d_add d_int (d_var 4)))))) ss_nil) (ss_cons (s_set (i := 6) sc.nd rfl (by first | exact Or.inl rfl | exact Or.inr rfl) (d_add (d_slice (d_var 1) (dp_some (d_add (d_var 4) d_int)) (dp_some (d_add (d_var 4) d_int))) (d_slice (d_var 1) (dp_some (d_var 4)) (dp_some (d_add (d_var 4) d_int))))) (ss_one (s_ret (d_add (d_add (d_slice (d_var 1) dp_none (dp_some (d_var 4))) (d_var 6)) (d_slice (d_var 1) (dp_some (d_add (d_var 4) d_int)) dp_none))))))))))))))
abbrev N__law_refusals_held : List Str := ["_law_held", "_law_text_here", "_law_caught", "e"]
theorem sc__law_refusals_held : FnScope N__law_refusals_held [] (defScope (top 48)) := ⟨rfl, rfl, rfl, by decide +kernel, rfl, by decide +kernel, by decide +kernel⟩
theorem w__law_refusals_held (T : Txt w K mg)
    (c_read_paper : Cal P w K mg base (clOf K) "read_paper" 5 ["text"] F_read_paper_v2) : Cal P w K mg base (clOf K) "_law_refusals_held" 6 [] F_law_refusals_held_v8 := by
  have sc := sc__law_refusals_held
  refine cal_of T.d__law_refusals_held sc (by decide) fun f cdv A outer s H E hr => ?_
  have tk : Takes (cxOf (L2.CX P w) P w K mg base N__law_refusals_held "_law_refusals_held" (defScope (top 48)) f cdv A outer s H E) (fun cls d _ H => E cls d H) := takes_of rfl rfl rfl rfl
  exact ss_cons (s_set (i := 0) sc.nd rfl (by first | exact Or.inl rfl | exact Or.inr rfl) (d_lst ae_nil)) (ss_cons (s_forH (n := "NoText") (j := 0) (c := 2) (passes_of rfl) rfl (i_list (d_lst (ae_cons d_str (ae_cons d_str (ae_cons d_str (ae_cons d_str (ae_cons d_str ae_nil))))))) (pg_name (i := 1) sc.nd rfl (by first | exact Or.inl rfl | exact Or.inr rfl)) (g_name 1) (s_set (i := 2) sc.nd rfl (by first | exact Or.inl rfl | exact Or.inr rfl) d_non) (s_tryA (ns := ["NoText"]) (i := 3) (j := 2) rfl T.exc.top rfl rfl rfl sc.nd rfl rfl ⟨rfl, by decide, .inl T.exc.gF⟩ tk (fun W pn xe tk _ => ss_one (s_expr (d_cal c_read_paper (hr.mono (by decide)) (passAt tk) (ae_cons (d_var 1) ae_nil)))) (fun a oe pn => pss_one (ps_set (i := 2) sc.nd rfl (by first | exact Or.inl rfl | exact Or.inr rfl) (pv 3)))) (pv 0) (pv 2)) (ss_one (s_ret (d_eq hr.units (d_fldsN (n := "NoText") (i := 2) rfl sc.nd (own := [("_law_caught", 2)]) (d_var 0) (blkOk_by (own := [("_law_caught", 2)]) (N := N__law_refusals_held) (sc := defScope (top 48)) (by decide +kernel)) (by decide) (T.exc.each "NoText" (by decide)) T.ox_NoText.no rfl (fun _ _ _ _ _ => pg_name (i := 2) sc.nd rfl (by first | exact Or.inl rfl | exact Or.inr rfl)) (fun _ _ _ _ _ => pv 2) (fun _ _ _ _ _ => pv 2) (fun _ _ _ _ _ => rfl)) (d_lst (ae_cons d_int (ae_cons d_int (ae_cons d_int (ae_cons d_int (ae_cons d_int ae_nil))))))))))
abbrev N_law : List Str := ["_law_script", "_law_cell", "_law_left_here", "_law_words", "_law_turn", "_law_due", "_law_text_here"]
theorem sc_law : FnScope N_law ["_law_script"] (defScope (top 49)) := ⟨rfl, rfl, rfl, by decide +kernel, rfl, by decide +kernel, by decide +kernel⟩
theorem w_law (T : Txt w K mg) (hp : LawOkS 7 p_law_k83)
    (c__law_left : Cal P w K mg base (clOf K) "_law_left" 1 ["_law_cell"] F_law_left)
    (c__law_drawn : Cal P w K mg base (clOf K) "_law_drawn" 4 ["_law_left_here"] F_law_drawn_v4)
    (c__law_text : Cal P w K mg base (clOf K) "_law_text" 1 ["_law_paper_here"] F_law_text)
    (c__law_wrong : Cal P w K mg base (clOf K) "_law_wrong" 3 ["_law_words"] F_law_wrong_v7)
    (c__law_paper : Cal P w K mg base (clOf K) "_law_paper" 3 ["_law_words"] F_law_paper)
    (c__law_told : Cal P w K mg base (clOf K) "_law_told" 6 ["_law_text_here"] F_law_told_v37)
    (c__law_bent : Cal P w K mg base (clOf K) "_law_bent" 3 ["_law_left_here", "_law_words"] F_law_bent_v17)
    (c__law_refusals_held : Cal P w K mg base (clOf K) "_law_refusals_held" 6 [] F_law_refusals_held_v8) {f : Addr} {fd : FuncData} (F : Fun K "law" "law" (top 49) f fd) : FnG P w K mg base (L2.CX P w) 7 f fd ["_law_script"] (spLaw K) := by
  have sc := sc_law
  refine law_ok2 (cl := clOf K) F sc (fun f cdv A outer s H E hr => ?_) hp
  have tk : Takes (cxOf (L2.CX P w) P w K mg base N_law "law" (defScope (top 49)) f cdv A outer s H E) (fun cls d _ H => E cls d H) := takes_of rfl rfl rfl rfl
  exact ss_cons (s_forW (k := 2) (passes_of rfl) rfl (i_list (d_add (d_lst (ae_cons d_int ae_nil)) (d_scCut (k := 8) (d_var 0)))) (pg_name (i := 1) sc.nd rfl (by first | exact Or.inl rfl | exact Or.inr rfl)) (g_name 1) sc.nd rfl (by first | exact Or.inl rfl | exact Or.inr rfl) (d_cal c__law_left (hr.mono (by decide)) (passAt tk) (ae_cons (d_var 1) ae_nil)) (ss_cons (s_set (i := 3) sc.nd rfl (by first | exact Or.inl rfl | exact Or.inr rfl) (d_split (d_cal c__law_text (hr.mono (by decide)) (passAt tk) (ae_cons (d_cal c__law_drawn (hr.mono (by decide)) (passAt tk) (ae_cons (d_var 2) ae_nil)) ae_nil)) d_str)) (ss_one (s_for (passes_of rfl) rfl (i_range1 rfl T.b_range (ap_cons d_int ap_nil)) (pg_name (i := 4) sc.nd rfl (by first | exact Or.inl rfl | exact Or.inr rfl)) (g_name 4) (ss_cons (s_set (i := 3) sc.nd rfl (by first | exact Or.inl rfl | exact Or.inr rfl) (d_cal c__law_bent (hr.mono (by decide)) (passAt tk) (ae_cons (d_var 2) (ae_cons (d_var 3) ae_nil)))) (ss_cons (s_set (i := 5) sc.nd rfl (by first | exact Or.inl rfl | exact Or.inr rfl) (d_lst (ae_cons (d_cal c__law_wrong (hr.mono (by decide)) (passAt tk) (ae_cons (d_var 3) ae_nil)) ae_nil))) (ss_cons (s_if (t_eq hr.units (d_var 5) (d_lst (ae_cons d_non ae_nil))) (ss_one (s_set (i := 5) sc.nd rfl (by first | exact Or.inl rfl | exact Or.inr rfl) (d_tup (ae_cons (d_cal c__law_paper (hr.mono (by decide)) (passAt tk) (ae_cons (d_var 3) ae_nil)) ae_nil)))) ss_nil) (ss_cons (s_set (i := 6) sc.nd rfl (by first | exact Or.inl rfl | exact Or.inr rfl) (d_join d_str (d_var 3))) (ss_one (s_if (d_tw (w_or (t_ne hr.units (d_cal c__law_told (hr.mono (by decide)) (passAt tk) (ae_cons (d_var 6) ae_nil)) (d_var 5)) (w_or1 (t_ne hr.units (d_cal c__law_told (hr.mono (by decide)) (passAt tk) (ae_cons (d_var 6) ae_nil)) (d_var 5))))) (ss_one (s_ret d_bl)) ss_nil)))))))))) (ss_one (s_ret (d_cal0 c__law_refusals_held (hr.mono (by decide)) (passAt tk))))
end
theorem all_mk {P : Program} {w : World} {K : PySem.W.Frag} {h : Heap} {mg : Str → Option Value} {fa : Addr} (X : K.In h) (G : h.Ns mainGlobals mg) (hfa : mg "law" = some (.ref fa)) {f_number_of : Addr} {od_number_of an_number_of : Option Addr} {sl_number_of : Array (Option Value)} {oc_number_of kV_number_of dc_number_of pm_number_of cd_number_of ct_number_of : Value} {f_tie_by : Addr} {od_tie_by an_tie_by : Option Addr} {sl_tie_by : Array (Option Value)} {oc_tie_by kV_tie_by dc_tie_by pm_tie_by cd_tie_by ct_tie_by : Value} {f_numbers_by : Addr} {od_numbers_by an_numbers_by : Option Addr} {sl_numbers_by : Array (Option Value)} {oc_numbers_by kV_numbers_by dc_numbers_by pm_numbers_by cd_numbers_by ct_numbers_by : Value} {f_lists_by : Addr} {od_lists_by an_lists_by : Option Addr} {sl_lists_by : Array (Option Value)} {oc_lists_by kV_lists_by dc_lists_by pm_lists_by cd_lists_by ct_lists_by : Value} {f_ties_by : Addr} {od_ties_by an_ties_by : Option Addr} {sl_ties_by : Array (Option Value)} {oc_ties_by kV_ties_by dc_ties_by pm_ties_by cd_ties_by ct_ties_by : Value} {f_read_paper : Addr} {od_read_paper an_read_paper : Option Addr} {sl_read_paper : Array (Option Value)} {oc_read_paper kV_read_paper dc_read_paper pm_read_paper cd_read_paper ct_read_paper : Value} {f__law_mix : Addr} {od__law_mix an__law_mix : Option Addr} {sl__law_mix : Array (Option Value)} {oc__law_mix kV__law_mix dc__law_mix pm__law_mix cd__law_mix ct__law_mix : Value} {f__law_left : Addr} {od__law_left an__law_left : Option Addr} {sl__law_left : Array (Option Value)} {oc__law_left kV__law_left dc__law_left pm__law_left cd__law_left ct__law_left : Value} {f__law_draw : Addr} {od__law_draw an__law_draw : Option Addr} {sl__law_draw : Array (Option Value)} {oc__law_draw kV__law_draw dc__law_draw pm__law_draw cd__law_draw ct__law_draw : Value} {f__law_numbers : Addr} {od__law_numbers an__law_numbers : Option Addr} {sl__law_numbers : Array (Option Value)} {oc__law_numbers kV__law_numbers dc__law_numbers pm__law_numbers cd__law_numbers ct__law_numbers : Value} {f__law_drawn : Addr} {od__law_drawn an__law_drawn : Option Addr} {sl__law_drawn : Array (Option Value)} {oc__law_drawn kV__law_drawn dc__law_drawn pm__law_drawn cd__law_drawn ct__law_drawn : Value} {f__law_text : Addr} {od__law_text an__law_text : Option Addr} {sl__law_text : Array (Option Value)} {oc__law_text kV__law_text dc__law_text pm__law_text cd__law_text ct__law_text : Value} {f__law_marks : Addr} {od__law_marks an__law_marks : Option Addr} {sl__law_marks : Array (Option Value)} {oc__law_marks kV__law_marks dc__law_marks pm__law_marks cd__law_marks ct__law_marks : Value} {f__law_figured : Addr} {od__law_figured an__law_figured : Option Addr} {sl__law_figured : Array (Option Value)} {oc__law_figured kV__law_figured dc__law_figured pm__law_figured cd__law_figured ct__law_figured : Value} {f__law_tie : Addr} {od__law_tie an__law_tie : Option Addr} {sl__law_tie : Array (Option Value)} {oc__law_tie kV__law_tie dc__law_tie pm__law_tie cd__law_tie ct__law_tie : Value} {f__law_shape : Addr} {od__law_shape an__law_shape : Option Addr} {sl__law_shape : Array (Option Value)} {oc__law_shape kV__law_shape dc__law_shape pm__law_shape cd__law_shape ct__law_shape : Value} {f__law_marks_of : Addr} {od__law_marks_of an__law_marks_of : Option Addr} {sl__law_marks_of : Array (Option Value)} {oc__law_marks_of kV__law_marks_of dc__law_marks_of pm__law_marks_of cd__law_marks_of ct__law_marks_of : Value} {f__law_wrong : Addr} {od__law_wrong an__law_wrong : Option Addr} {sl__law_wrong : Array (Option Value)} {oc__law_wrong kV__law_wrong dc__law_wrong pm__law_wrong cd__law_wrong ct__law_wrong : Value} {f__law_paper : Addr} {od__law_paper an__law_paper : Option Addr} {sl__law_paper : Array (Option Value)} {oc__law_paper kV__law_paper dc__law_paper pm__law_paper cd__law_paper ct__law_paper : Value} {f__law_told : Addr} {od__law_told an__law_told : Option Addr} {sl__law_told : Array (Option Value)} {oc__law_told kV__law_told dc__law_told pm__law_told cd__law_told ct__law_told : Value} {f__law_bent : Addr} {od__law_bent an__law_bent : Option Addr} {sl__law_bent : Array (Option Value)} {oc__law_bent kV__law_bent dc__law_bent pm__law_bent cd__law_bent ct__law_bent : Value} {f__law_refusals_held : Addr} {od__law_refusals_held an__law_refusals_held : Option Addr} {sl__law_refusals_held : Array (Option Value)} {oc__law_refusals_held kV__law_refusals_held dc__law_refusals_held pm__law_refusals_held cd__law_refusals_held ct__law_refusals_held : Value} {f_law : Addr} {od_law an_law : Option Addr} {sl_law : Array (Option Value)} {oc_law kV_law dc_law pm_law cd_law ct_law : Value} {t_MOST_FIGURES : Tok} {t_FIGURES : Tok} {a_LISTS : Addr} {n_LISTS : Nat} {t0_LISTS t1_LISTS t2_LISTS t3_LISTS t4_LISTS : Tok} {a_FORMS : Addr} {es_FORMS : Array DictEntry} {n_FORMS : Nat} {a0_FORMS : Addr} {n0_FORMS : Nat} {t0_0_FORMS t0_1_FORMS : Tok} {a1_FORMS : Addr} {n1_FORMS : Nat} {t1_0_FORMS t1_1_FORMS : Tok} {a2_FORMS : Addr} {n2_FORMS : Nat} {t2_0_FORMS t2_1_FORMS t2_2_FORMS t2_3_FORMS : Tok} {a3_FORMS : Addr} {n3_FORMS : Nat} {t3_0_FORMS t3_1_FORMS t3_2_FORMS : Tok} {C_NoText : Addr} {C_FolkError : Addr} {C_NoBack : Addr} {C_NoFall : Addr} {C_NoFit : Addr} {C_NoFixed : Addr} {C_NoFolk : Addr} {C_NoHand : Addr} {C_NoLine : Addr} {C_NoNames : Addr} {C_NoNumber : Addr} {C_NoPaper : Addr} {C_NoRanking : Addr} {C_NoRow : Addr} {C_NoRule : Addr} {C_NoTitle : Addr} {C_NoTops : Addr} {C_NoTree : Addr} {C_NoWeights : Addr} {C_TooGreat : Addr} {nm_NoText qn_NoText : Str} {N_NoText fi_NoText : Addr} {bs_NoText bm_NoText sub_NoText : List Value} {sn_NoText : List Str} {ab_NoText : Bool} {col_NoText : Option Bool} {dd_NoText : Option Addr} {k0_NoText k1_NoText k2_NoText k3_NoText k5_NoText : Option Value} {oc_NoText kV_NoText dc_NoText pm_NoText cd2_NoText ct2_NoText : Value} {od_NoText an_NoText : Option Addr} {sl_NoText : Array (Option Value)}
    (a_number_of : PySem.W.nsIn K mainGlobals "number_of" = some (some (.ref f_number_of))) (l_number_of : K.lookup f_number_of = some ⟨oc_number_of, od_number_of, .func (PySem.W.fnOf "number_of" "number_of" (defArgs (top 26)) (defBody (top 26)) (defScope (top 26)) .none kV_number_of dc_number_of pm_number_of an_number_of cd_number_of ct_number_of), sl_number_of⟩) (c_number_of : PySem.W.codeIn K cd_number_of "number_of" = true) (k_number_of : PySem.W.keepIn K (.ref f_number_of) = true)
    (a_tie_by : PySem.W.nsIn K mainGlobals "tie_by" = some (some (.ref f_tie_by))) (l_tie_by : K.lookup f_tie_by = some ⟨oc_tie_by, od_tie_by, .func (PySem.W.fnOf "tie_by" "tie_by" (defArgs (top 27)) (defBody (top 27)) (defScope (top 27)) .none kV_tie_by dc_tie_by pm_tie_by an_tie_by cd_tie_by ct_tie_by), sl_tie_by⟩) (c_tie_by : PySem.W.codeIn K cd_tie_by "tie_by" = true) (k_tie_by : PySem.W.keepIn K (.ref f_tie_by) = true)
    (a_numbers_by : PySem.W.nsIn K mainGlobals "numbers_by" = some (some (.ref f_numbers_by))) (l_numbers_by : K.lookup f_numbers_by = some ⟨oc_numbers_by, od_numbers_by, .func (PySem.W.fnOf "numbers_by" "numbers_by" (defArgs (top 28)) (defBody (top 28)) (defScope (top 28)) .none kV_numbers_by dc_numbers_by pm_numbers_by an_numbers_by cd_numbers_by ct_numbers_by), sl_numbers_by⟩) (c_numbers_by : PySem.W.codeIn K cd_numbers_by "numbers_by" = true) (k_numbers_by : PySem.W.keepIn K (.ref f_numbers_by) = true)
    (a_lists_by : PySem.W.nsIn K mainGlobals "lists_by" = some (some (.ref f_lists_by))) (l_lists_by : K.lookup f_lists_by = some ⟨oc_lists_by, od_lists_by, .func (PySem.W.fnOf "lists_by" "lists_by" (defArgs (top 29)) (defBody (top 29)) (defScope (top 29)) .none kV_lists_by dc_lists_by pm_lists_by an_lists_by cd_lists_by ct_lists_by), sl_lists_by⟩) (c_lists_by : PySem.W.codeIn K cd_lists_by "lists_by" = true) (k_lists_by : PySem.W.keepIn K (.ref f_lists_by) = true)
    (a_ties_by : PySem.W.nsIn K mainGlobals "ties_by" = some (some (.ref f_ties_by))) (l_ties_by : K.lookup f_ties_by = some ⟨oc_ties_by, od_ties_by, .func (PySem.W.fnOf "ties_by" "ties_by" (defArgs (top 30)) (defBody (top 30)) (defScope (top 30)) .none kV_ties_by dc_ties_by pm_ties_by an_ties_by cd_ties_by ct_ties_by), sl_ties_by⟩) (c_ties_by : PySem.W.codeIn K cd_ties_by "ties_by" = true) (k_ties_by : PySem.W.keepIn K (.ref f_ties_by) = true)
    (a_read_paper : PySem.W.nsIn K mainGlobals "read_paper" = some (some (.ref f_read_paper))) (l_read_paper : K.lookup f_read_paper = some ⟨oc_read_paper, od_read_paper, .func (PySem.W.fnOf "read_paper" "read_paper" (defArgs (top 31)) (defBody (top 31)) (defScope (top 31)) .none kV_read_paper dc_read_paper pm_read_paper an_read_paper cd_read_paper ct_read_paper), sl_read_paper⟩) (c_read_paper : PySem.W.codeIn K cd_read_paper "read_paper" = true) (k_read_paper : PySem.W.keepIn K (.ref f_read_paper) = true)
    (a__law_mix : PySem.W.nsIn K mainGlobals "_law_mix" = some (some (.ref f__law_mix))) (l__law_mix : K.lookup f__law_mix = some ⟨oc__law_mix, od__law_mix, .func (PySem.W.fnOf "_law_mix" "_law_mix" (defArgs (top 33)) (defBody (top 33)) (defScope (top 33)) .none kV__law_mix dc__law_mix pm__law_mix an__law_mix cd__law_mix ct__law_mix), sl__law_mix⟩) (c__law_mix : PySem.W.codeIn K cd__law_mix "_law_mix" = true) (k__law_mix : PySem.W.keepIn K (.ref f__law_mix) = true)
    (a__law_left : PySem.W.nsIn K mainGlobals "_law_left" = some (some (.ref f__law_left))) (l__law_left : K.lookup f__law_left = some ⟨oc__law_left, od__law_left, .func (PySem.W.fnOf "_law_left" "_law_left" (defArgs (top 34)) (defBody (top 34)) (defScope (top 34)) .none kV__law_left dc__law_left pm__law_left an__law_left cd__law_left ct__law_left), sl__law_left⟩) (c__law_left : PySem.W.codeIn K cd__law_left "_law_left" = true) (k__law_left : PySem.W.keepIn K (.ref f__law_left) = true)
    (a__law_draw : PySem.W.nsIn K mainGlobals "_law_draw" = some (some (.ref f__law_draw))) (l__law_draw : K.lookup f__law_draw = some ⟨oc__law_draw, od__law_draw, .func (PySem.W.fnOf "_law_draw" "_law_draw" (defArgs (top 35)) (defBody (top 35)) (defScope (top 35)) .none kV__law_draw dc__law_draw pm__law_draw an__law_draw cd__law_draw ct__law_draw), sl__law_draw⟩) (c__law_draw : PySem.W.codeIn K cd__law_draw "_law_draw" = true) (k__law_draw : PySem.W.keepIn K (.ref f__law_draw) = true)
    (a__law_numbers : PySem.W.nsIn K mainGlobals "_law_numbers" = some (some (.ref f__law_numbers))) (l__law_numbers : K.lookup f__law_numbers = some ⟨oc__law_numbers, od__law_numbers, .func (PySem.W.fnOf "_law_numbers" "_law_numbers" (defArgs (top 36)) (defBody (top 36)) (defScope (top 36)) .none kV__law_numbers dc__law_numbers pm__law_numbers an__law_numbers cd__law_numbers ct__law_numbers), sl__law_numbers⟩) (c__law_numbers : PySem.W.codeIn K cd__law_numbers "_law_numbers" = true) (k__law_numbers : PySem.W.keepIn K (.ref f__law_numbers) = true)
    (a__law_drawn : PySem.W.nsIn K mainGlobals "_law_drawn" = some (some (.ref f__law_drawn))) (l__law_drawn : K.lookup f__law_drawn = some ⟨oc__law_drawn, od__law_drawn, .func (PySem.W.fnOf "_law_drawn" "_law_drawn" (defArgs (top 37)) (defBody (top 37)) (defScope (top 37)) .none kV__law_drawn dc__law_drawn pm__law_drawn an__law_drawn cd__law_drawn ct__law_drawn), sl__law_drawn⟩) (c__law_drawn : PySem.W.codeIn K cd__law_drawn "_law_drawn" = true) (k__law_drawn : PySem.W.keepIn K (.ref f__law_drawn) = true)
    (a__law_text : PySem.W.nsIn K mainGlobals "_law_text" = some (some (.ref f__law_text))) (l__law_text : K.lookup f__law_text = some ⟨oc__law_text, od__law_text, .func (PySem.W.fnOf "_law_text" "_law_text" (defArgs (top 38)) (defBody (top 38)) (defScope (top 38)) .none kV__law_text dc__law_text pm__law_text an__law_text cd__law_text ct__law_text), sl__law_text⟩) (c__law_text : PySem.W.codeIn K cd__law_text "_law_text" = true) (k__law_text : PySem.W.keepIn K (.ref f__law_text) = true)
    (a__law_marks : PySem.W.nsIn K mainGlobals "_law_marks" = some (some (.ref f__law_marks))) (l__law_marks : K.lookup f__law_marks = some ⟨oc__law_marks, od__law_marks, .func (PySem.W.fnOf "_law_marks" "_law_marks" (defArgs (top 39)) (defBody (top 39)) (defScope (top 39)) .none kV__law_marks dc__law_marks pm__law_marks an__law_marks cd__law_marks ct__law_marks), sl__law_marks⟩) (c__law_marks : PySem.W.codeIn K cd__law_marks "_law_marks" = true) (k__law_marks : PySem.W.keepIn K (.ref f__law_marks) = true)
    (a__law_figured : PySem.W.nsIn K mainGlobals "_law_figured" = some (some (.ref f__law_figured))) (l__law_figured : K.lookup f__law_figured = some ⟨oc__law_figured, od__law_figured, .func (PySem.W.fnOf "_law_figured" "_law_figured" (defArgs (top 40)) (defBody (top 40)) (defScope (top 40)) .none kV__law_figured dc__law_figured pm__law_figured an__law_figured cd__law_figured ct__law_figured), sl__law_figured⟩) (c__law_figured : PySem.W.codeIn K cd__law_figured "_law_figured" = true) (k__law_figured : PySem.W.keepIn K (.ref f__law_figured) = true)
    (a__law_tie : PySem.W.nsIn K mainGlobals "_law_tie" = some (some (.ref f__law_tie))) (l__law_tie : K.lookup f__law_tie = some ⟨oc__law_tie, od__law_tie, .func (PySem.W.fnOf "_law_tie" "_law_tie" (defArgs (top 41)) (defBody (top 41)) (defScope (top 41)) .none kV__law_tie dc__law_tie pm__law_tie an__law_tie cd__law_tie ct__law_tie), sl__law_tie⟩) (c__law_tie : PySem.W.codeIn K cd__law_tie "_law_tie" = true) (k__law_tie : PySem.W.keepIn K (.ref f__law_tie) = true)
    (a__law_shape : PySem.W.nsIn K mainGlobals "_law_shape" = some (some (.ref f__law_shape))) (l__law_shape : K.lookup f__law_shape = some ⟨oc__law_shape, od__law_shape, .func (PySem.W.fnOf "_law_shape" "_law_shape" (defArgs (top 42)) (defBody (top 42)) (defScope (top 42)) .none kV__law_shape dc__law_shape pm__law_shape an__law_shape cd__law_shape ct__law_shape), sl__law_shape⟩) (c__law_shape : PySem.W.codeIn K cd__law_shape "_law_shape" = true) (k__law_shape : PySem.W.keepIn K (.ref f__law_shape) = true)
    (a__law_marks_of : PySem.W.nsIn K mainGlobals "_law_marks_of" = some (some (.ref f__law_marks_of))) (l__law_marks_of : K.lookup f__law_marks_of = some ⟨oc__law_marks_of, od__law_marks_of, .func (PySem.W.fnOf "_law_marks_of" "_law_marks_of" (defArgs (top 43)) (defBody (top 43)) (defScope (top 43)) .none kV__law_marks_of dc__law_marks_of pm__law_marks_of an__law_marks_of cd__law_marks_of ct__law_marks_of), sl__law_marks_of⟩) (c__law_marks_of : PySem.W.codeIn K cd__law_marks_of "_law_marks_of" = true) (k__law_marks_of : PySem.W.keepIn K (.ref f__law_marks_of) = true)
    (a__law_wrong : PySem.W.nsIn K mainGlobals "_law_wrong" = some (some (.ref f__law_wrong))) (l__law_wrong : K.lookup f__law_wrong = some ⟨oc__law_wrong, od__law_wrong, .func (PySem.W.fnOf "_law_wrong" "_law_wrong" (defArgs (top 44)) (defBody (top 44)) (defScope (top 44)) .none kV__law_wrong dc__law_wrong pm__law_wrong an__law_wrong cd__law_wrong ct__law_wrong), sl__law_wrong⟩) (c__law_wrong : PySem.W.codeIn K cd__law_wrong "_law_wrong" = true) (k__law_wrong : PySem.W.keepIn K (.ref f__law_wrong) = true)
    (a__law_paper : PySem.W.nsIn K mainGlobals "_law_paper" = some (some (.ref f__law_paper))) (l__law_paper : K.lookup f__law_paper = some ⟨oc__law_paper, od__law_paper, .func (PySem.W.fnOf "_law_paper" "_law_paper" (defArgs (top 45)) (defBody (top 45)) (defScope (top 45)) .none kV__law_paper dc__law_paper pm__law_paper an__law_paper cd__law_paper ct__law_paper), sl__law_paper⟩) (c__law_paper : PySem.W.codeIn K cd__law_paper "_law_paper" = true) (k__law_paper : PySem.W.keepIn K (.ref f__law_paper) = true)
    (a__law_told : PySem.W.nsIn K mainGlobals "_law_told" = some (some (.ref f__law_told))) (l__law_told : K.lookup f__law_told = some ⟨oc__law_told, od__law_told, .func (PySem.W.fnOf "_law_told" "_law_told" (defArgs (top 46)) (defBody (top 46)) (defScope (top 46)) .none kV__law_told dc__law_told pm__law_told an__law_told cd__law_told ct__law_told), sl__law_told⟩) (c__law_told : PySem.W.codeIn K cd__law_told "_law_told" = true) (k__law_told : PySem.W.keepIn K (.ref f__law_told) = true)
    (a__law_bent : PySem.W.nsIn K mainGlobals "_law_bent" = some (some (.ref f__law_bent))) (l__law_bent : K.lookup f__law_bent = some ⟨oc__law_bent, od__law_bent, .func (PySem.W.fnOf "_law_bent" "_law_bent" (defArgs (top 47)) (defBody (top 47)) (defScope (top 47)) .none kV__law_bent dc__law_bent pm__law_bent an__law_bent cd__law_bent ct__law_bent), sl__law_bent⟩) (c__law_bent : PySem.W.codeIn K cd__law_bent "_law_bent" = true) (k__law_bent : PySem.W.keepIn K (.ref f__law_bent) = true)
    (a__law_refusals_held : PySem.W.nsIn K mainGlobals "_law_refusals_held" = some (some (.ref f__law_refusals_held))) (l__law_refusals_held : K.lookup f__law_refusals_held = some ⟨oc__law_refusals_held, od__law_refusals_held, .func (PySem.W.fnOf "_law_refusals_held" "_law_refusals_held" (defArgs (top 48)) (defBody (top 48)) (defScope (top 48)) .none kV__law_refusals_held dc__law_refusals_held pm__law_refusals_held an__law_refusals_held cd__law_refusals_held ct__law_refusals_held), sl__law_refusals_held⟩) (c__law_refusals_held : PySem.W.codeIn K cd__law_refusals_held "_law_refusals_held" = true) (k__law_refusals_held : PySem.W.keepIn K (.ref f__law_refusals_held) = true)
    (a_law : PySem.W.nsIn K mainGlobals "law" = some (some (.ref f_law))) (l_law : K.lookup f_law = some ⟨oc_law, od_law, .func (PySem.W.fnOf "law" "law" (defArgs (top 49)) (defBody (top 49)) (defScope (top 49)) .none kV_law dc_law pm_law an_law cd_law ct_law), sl_law⟩) (c_law : PySem.W.codeIn K cd_law "law" = true) (k_law : PySem.W.keepIn K (.ref f_law) = true)
    (z_int : PySem.W.nsIn K mainGlobals "int" = some none)
    (z_len : PySem.W.nsIn K mainGlobals "len" = some none)
    (z_all : PySem.W.nsIn K mainGlobals "all" = some none)
    (z_enumerate : PySem.W.nsIn K mainGlobals "enumerate" = some none)
    (z_range : PySem.W.nsIn K mainGlobals "range" = some none)
    (z_tuple : PySem.W.nsIn K mainGlobals "tuple" = some none)
    (z_list : PySem.W.nsIn K mainGlobals "list" = some none)
    (z_str : PySem.W.nsIn K mainGlobals "str" = some none)
    (z_isinstance : PySem.W.nsIn K mainGlobals "isinstance" = some none)
    (z_ValueError : PySem.W.nsIn K mainGlobals "ValueError" = some none)
    (z_zip : PySem.W.nsIn K mainGlobals "zip" = some none)
    (z_bool : PySem.W.nsIn K mainGlobals "bool" = some none)
    (g_MOST_FIGURES : PySem.W.nsIn K mainGlobals "MOST_FIGURES" = some (some (.int 30 t_MOST_FIGURES)))
    (g_FIGURES : PySem.W.nsIn K mainGlobals "FIGURES" = some (some (.str "0123456789" t_FIGURES)))
    (ga_LISTS : PySem.W.nsIn K mainGlobals "LISTS" = some (some (.ref a_LISTS))) (gl_LISTS : K.lookup a_LISTS = some ⟨.type "list", none, .seq #[.str "line" t0_LISTS, .str "row" t1_LISTS, .str "gone" t2_LISTS, .str "order" t3_LISTS, .str "ring" t4_LISTS] n_LISTS, #[]⟩)
    (ga_FORMS : PySem.W.nsIn K mainGlobals "FORMS" = some (some (.ref a_FORMS))) (gl_FORMS : K.lookup a_FORMS = some ⟨.type "dict", none, .dict es_FORMS n_FORMS, #[]⟩) (gk_FORMS : es_FORMS.toList.map He.keyOf = He.keysIn w.params ["three", "four", "apart", "cross"]) (gs_FORMS : (a_FORMS == sysModules) = false)
    (gv0_FORMS : PySem.W.nsIn K a_FORMS "three" = some (some (.ref a0_FORMS)))
    (gt0_FORMS : K.lookup a0_FORMS = some ⟨.type "tuple", none, .seq #[.int 3 t0_0_FORMS, .int 3 t0_1_FORMS] n0_FORMS, #[]⟩)
    (gv1_FORMS : PySem.W.nsIn K a_FORMS "four" = some (some (.ref a1_FORMS)))
    (gt1_FORMS : K.lookup a1_FORMS = some ⟨.type "tuple", none, .seq #[.int 2 t1_0_FORMS, .int 4 t1_1_FORMS] n1_FORMS, #[]⟩)
    (gv2_FORMS : PySem.W.nsIn K a_FORMS "apart" = some (some (.ref a2_FORMS)))
    (gt2_FORMS : K.lookup a2_FORMS = some ⟨.type "tuple", none, .seq #[.int 3 t2_0_FORMS, .int 2 t2_1_FORMS, .int 2 t2_2_FORMS, .int 2 t2_3_FORMS] n2_FORMS, #[]⟩)
    (gv3_FORMS : PySem.W.nsIn K a_FORMS "cross" = some (some (.ref a3_FORMS)))
    (gt3_FORMS : K.lookup a3_FORMS = some ⟨.type "tuple", none, .seq #[.int 4 t3_0_FORMS, .int 2 t3_1_FORMS, .int 2 t3_2_FORMS] n3_FORMS, #[]⟩)
    (ca_NoText : PySem.W.nsIn K mainGlobals "NoText" = some (some (.ref C_NoText)))
    (cb_NoText : PySem.W.subIn K (.ref C_NoText) (.type "BaseException") = some true)
    (ct_NoText : PySem.W.typeIn K (.ref C_NoText) = some (.type "type"))
    (cd_NoText : PySem.W.hasDictIn K C_NoText = true)
    (ca_FolkError : PySem.W.nsIn K mainGlobals "FolkError" = some (some (.ref C_FolkError)))
    (cb_FolkError : PySem.W.subIn K (.ref C_FolkError) (.type "BaseException") = some true)
    (ct_FolkError : PySem.W.typeIn K (.ref C_FolkError) = some (.type "type"))
    (cd_FolkError : PySem.W.hasDictIn K C_FolkError = true)
    (ck_NoText : PySem.W.keepIn K (.ref C_NoText) = true)
    (cv_NoText : PySem.W.subIn K (.ref C_NoText) (.type "ValueError") = some true)
    (cg_NoText : PySem.W.findIn K (.ref C_NoText) "__getattribute__" = some (some (.builtin "BaseException.__getattribute__")))
    (ch_NoText : PySem.W.findIn K (.ref C_NoText) "__getattr__" = some none)
    (cc_NoText : PySem.W.findIn K (.ref C_NoText) "__class__" = some (some (.builtin "object.__class__")))
    (cm_NoText : PySem.W.mroIn K C_NoText (.type "object") = some true)
    (cf_NoText : PySem.W.subIn K (.ref C_NoText) (.ref C_FolkError) = some true)
    (cp_NoText_NoText : PySem.W.subIn K (.ref C_NoText) (.ref C_NoText) = some true)
    (ca_NoBack : PySem.W.nsIn K mainGlobals "NoBack" = some (some (.ref C_NoBack)))
    (ct_NoBack : PySem.W.typeIn K (.ref C_NoBack) = some (.type "type"))
    (cd_NoBack : PySem.W.hasDictIn K C_NoBack = true)
    (cp_NoText_NoBack : PySem.W.subIn K (.ref C_NoText) (.ref C_NoBack) = some false)
    (ca_NoFall : PySem.W.nsIn K mainGlobals "NoFall" = some (some (.ref C_NoFall)))
    (ct_NoFall : PySem.W.typeIn K (.ref C_NoFall) = some (.type "type"))
    (cd_NoFall : PySem.W.hasDictIn K C_NoFall = true)
    (cp_NoText_NoFall : PySem.W.subIn K (.ref C_NoText) (.ref C_NoFall) = some false)
    (ca_NoFit : PySem.W.nsIn K mainGlobals "NoFit" = some (some (.ref C_NoFit)))
    (ct_NoFit : PySem.W.typeIn K (.ref C_NoFit) = some (.type "type"))
    (cd_NoFit : PySem.W.hasDictIn K C_NoFit = true)
    (cp_NoText_NoFit : PySem.W.subIn K (.ref C_NoText) (.ref C_NoFit) = some false)
    (ca_NoFixed : PySem.W.nsIn K mainGlobals "NoFixed" = some (some (.ref C_NoFixed)))
    (ct_NoFixed : PySem.W.typeIn K (.ref C_NoFixed) = some (.type "type"))
    (cd_NoFixed : PySem.W.hasDictIn K C_NoFixed = true)
    (cp_NoText_NoFixed : PySem.W.subIn K (.ref C_NoText) (.ref C_NoFixed) = some false)
    (ca_NoFolk : PySem.W.nsIn K mainGlobals "NoFolk" = some (some (.ref C_NoFolk)))
    (ct_NoFolk : PySem.W.typeIn K (.ref C_NoFolk) = some (.type "type"))
    (cd_NoFolk : PySem.W.hasDictIn K C_NoFolk = true)
    (cp_NoText_NoFolk : PySem.W.subIn K (.ref C_NoText) (.ref C_NoFolk) = some false)
    (ca_NoHand : PySem.W.nsIn K mainGlobals "NoHand" = some (some (.ref C_NoHand)))
    (ct_NoHand : PySem.W.typeIn K (.ref C_NoHand) = some (.type "type"))
    (cd_NoHand : PySem.W.hasDictIn K C_NoHand = true)
    (cp_NoText_NoHand : PySem.W.subIn K (.ref C_NoText) (.ref C_NoHand) = some false)
    (ca_NoLine : PySem.W.nsIn K mainGlobals "NoLine" = some (some (.ref C_NoLine)))
    (ct_NoLine : PySem.W.typeIn K (.ref C_NoLine) = some (.type "type"))
    (cd_NoLine : PySem.W.hasDictIn K C_NoLine = true)
    (cp_NoText_NoLine : PySem.W.subIn K (.ref C_NoText) (.ref C_NoLine) = some false)
    (ca_NoNames : PySem.W.nsIn K mainGlobals "NoNames" = some (some (.ref C_NoNames)))
    (ct_NoNames : PySem.W.typeIn K (.ref C_NoNames) = some (.type "type"))
    (cd_NoNames : PySem.W.hasDictIn K C_NoNames = true)
    (cp_NoText_NoNames : PySem.W.subIn K (.ref C_NoText) (.ref C_NoNames) = some false)
    (ca_NoNumber : PySem.W.nsIn K mainGlobals "NoNumber" = some (some (.ref C_NoNumber)))
    (ct_NoNumber : PySem.W.typeIn K (.ref C_NoNumber) = some (.type "type"))
    (cd_NoNumber : PySem.W.hasDictIn K C_NoNumber = true)
    (cp_NoText_NoNumber : PySem.W.subIn K (.ref C_NoText) (.ref C_NoNumber) = some false)
    (ca_NoPaper : PySem.W.nsIn K mainGlobals "NoPaper" = some (some (.ref C_NoPaper)))
    (ct_NoPaper : PySem.W.typeIn K (.ref C_NoPaper) = some (.type "type"))
    (cd_NoPaper : PySem.W.hasDictIn K C_NoPaper = true)
    (cp_NoText_NoPaper : PySem.W.subIn K (.ref C_NoText) (.ref C_NoPaper) = some false)
    (ca_NoRanking : PySem.W.nsIn K mainGlobals "NoRanking" = some (some (.ref C_NoRanking)))
    (ct_NoRanking : PySem.W.typeIn K (.ref C_NoRanking) = some (.type "type"))
    (cd_NoRanking : PySem.W.hasDictIn K C_NoRanking = true)
    (cp_NoText_NoRanking : PySem.W.subIn K (.ref C_NoText) (.ref C_NoRanking) = some false)
    (ca_NoRow : PySem.W.nsIn K mainGlobals "NoRow" = some (some (.ref C_NoRow)))
    (ct_NoRow : PySem.W.typeIn K (.ref C_NoRow) = some (.type "type"))
    (cd_NoRow : PySem.W.hasDictIn K C_NoRow = true)
    (cp_NoText_NoRow : PySem.W.subIn K (.ref C_NoText) (.ref C_NoRow) = some false)
    (ca_NoRule : PySem.W.nsIn K mainGlobals "NoRule" = some (some (.ref C_NoRule)))
    (ct_NoRule : PySem.W.typeIn K (.ref C_NoRule) = some (.type "type"))
    (cd_NoRule : PySem.W.hasDictIn K C_NoRule = true)
    (cp_NoText_NoRule : PySem.W.subIn K (.ref C_NoText) (.ref C_NoRule) = some false)
    (ca_NoTitle : PySem.W.nsIn K mainGlobals "NoTitle" = some (some (.ref C_NoTitle)))
    (ct_NoTitle : PySem.W.typeIn K (.ref C_NoTitle) = some (.type "type"))
    (cd_NoTitle : PySem.W.hasDictIn K C_NoTitle = true)
    (cp_NoText_NoTitle : PySem.W.subIn K (.ref C_NoText) (.ref C_NoTitle) = some false)
    (ca_NoTops : PySem.W.nsIn K mainGlobals "NoTops" = some (some (.ref C_NoTops)))
    (ct_NoTops : PySem.W.typeIn K (.ref C_NoTops) = some (.type "type"))
    (cd_NoTops : PySem.W.hasDictIn K C_NoTops = true)
    (cp_NoText_NoTops : PySem.W.subIn K (.ref C_NoText) (.ref C_NoTops) = some false)
    (ca_NoTree : PySem.W.nsIn K mainGlobals "NoTree" = some (some (.ref C_NoTree)))
    (ct_NoTree : PySem.W.typeIn K (.ref C_NoTree) = some (.type "type"))
    (cd_NoTree : PySem.W.hasDictIn K C_NoTree = true)
    (cp_NoText_NoTree : PySem.W.subIn K (.ref C_NoText) (.ref C_NoTree) = some false)
    (ca_NoWeights : PySem.W.nsIn K mainGlobals "NoWeights" = some (some (.ref C_NoWeights)))
    (ct_NoWeights : PySem.W.typeIn K (.ref C_NoWeights) = some (.type "type"))
    (cd_NoWeights : PySem.W.hasDictIn K C_NoWeights = true)
    (cp_NoText_NoWeights : PySem.W.subIn K (.ref C_NoText) (.ref C_NoWeights) = some false)
    (ca_TooGreat : PySem.W.nsIn K mainGlobals "TooGreat" = some (some (.ref C_TooGreat)))
    (ct_TooGreat : PySem.W.typeIn K (.ref C_TooGreat) = some (.type "type"))
    (cd_TooGreat : PySem.W.hasDictIn K C_TooGreat = true)
    (cp_NoText_TooGreat : PySem.W.subIn K (.ref C_NoText) (.ref C_TooGreat) = some false)
    (co_NoText : K.lookup C_NoText = some (excClassObj nm_NoText qn_NoText C_NoText N_NoText bs_NoText bm_NoText true sn_NoText sub_NoText ab_NoText col_NoText dd_NoText k0_NoText k1_NoText k2_NoText k3_NoText k5_NoText "ValueError.__new__"))
    (gk_NoText : PySem.HandSPX.refsVE bm_NoText = true)
    (cs_NoText : PySem.W.findIn K (.ref C_NoText) "__setattr__" = some (some (.builtin "object.__setattr__")))
    (cn_NoText : PySem.W.findIn K (.ref C_NoText) "at" = some none)
    (ci_NoText : PySem.W.findIn K (.ref C_NoText) "__init__" = some (some (.ref fi_NoText)))
    (cy_NoText : PySem.W.typeIn K (.ref fi_NoText) = some (.type "function"))
    (cl_NoText : K.lookup fi_NoText = some ⟨oc_NoText, od_NoText, .func (PySem.W.fnOf "__init__" "NoText.__init__" (defArgs (inSt (top 10))) (defBody (inSt (top 10))) (defScope (inSt (top 10))) .none kV_NoText dc_NoText pm_NoText an_NoText cd2_NoText ct2_NoText), sl_NoText⟩)
    (cc2_NoText : PySem.W.codeIn K cd2_NoText "NoText.__init__" = true)
    (ck2_NoText : PySem.W.keepIn K (.ref fi_NoText) = true)
    (cr_F : PySem.W.readsIn K C_FolkError (.type "type") = true)
    (cg_F : PySem.W.specialIn K (.ref C_FolkError) "__getattribute__" = some (some (.builtin "type.__getattribute__")))
    (cf_F : PySem.W.findCls K (.ref C_FolkError) (.type "type") "__init__" = some (.val (.builtin "ValueError.__init__")))
    (c0_s : PySem.W.specialIn K (.builtin "object.__class__") "__get__" = some (some (.builtin "getset_descriptor.__get__")))
    (c0_t : PySem.W.takesIn K (.builtin "object.__class__") = some true) :
    ∃ fd : FuncData, (∀ (s : Shared) (v : Value), BindsTo s fd ⟨[v], []⟩ [("_law_script", v)]) ∧ ∀ base : Heap, K.In base → base.Ns mainGlobals mg → FnG P w K mg base (L2.CX P w) 7 fa fd ["_law_script"] (spLaw K) := by
  have E_NoText : ExG K mg "NoText" := exg_mk X G ca_NoText (fun _ h => absurd rfl h) ck_NoText cb_NoText ct_NoText cv_NoText cd_NoText cg_NoText ch_NoText cc_NoText cm_NoText c0_s c0_t
  have T : Txt w K mg :=
    { b_int := PySem.W.mg_none_of X G z_int
      b_len := PySem.W.mg_none_of X G z_len
      b_all := PySem.W.mg_none_of X G z_all
      b_enumerate := PySem.W.mg_none_of X G z_enumerate
      b_range := PySem.W.mg_none_of X G z_range
      b_tuple := PySem.W.mg_none_of X G z_tuple
      b_list := PySem.W.mg_none_of X G z_list
      b_str := PySem.W.mg_none_of X G z_str
      b_isinstance := PySem.W.mg_none_of X G z_isinstance
      b_ValueError := PySem.W.mg_none_of X G z_ValueError
      b_zip := PySem.W.mg_none_of X G z_zip
      b_bool := PySem.W.mg_none_of X G z_bool
      c_MOST_FIGURES := ⟨_, PySem.W.mg_of X G g_MOST_FIGURES⟩
      c_FIGURES := ⟨_, PySem.W.mg_of X G g_FIGURES⟩
      g_LISTS := glst_mk X G ga_LISTS gl_LISTS (Nat.le_of_ble_eq_true rfl) (.cons (⟨_, rfl⟩) (.cons (⟨_, rfl⟩) (.cons (⟨_, rfl⟩) (.cons (⟨_, rfl⟩) (.cons (⟨_, rfl⟩) (.nil))))))
      g_FORMS := gdk_mk X G ga_FORMS gl_FORMS gk_FORMS gs_FORMS (by intro p hp; simp only [List.mem_cons, List.not_mem_nil, or_false] at hp; rcases hp with rfl | rfl | rfl | rfl; exact ⟨_, gv0_FORMS, kti_mk gt0_FORMS (Nat.le_of_ble_eq_true rfl) (.cons (⟨_, rfl⟩) (.cons (⟨_, rfl⟩) (.nil)))⟩; exact ⟨_, gv1_FORMS, kti_mk gt1_FORMS (Nat.le_of_ble_eq_true rfl) (.cons (⟨_, rfl⟩) (.cons (⟨_, rfl⟩) (.nil)))⟩; exact ⟨_, gv2_FORMS, kti_mk gt2_FORMS (Nat.le_of_ble_eq_true rfl) (.cons (⟨_, rfl⟩) (.cons (⟨_, rfl⟩) (.cons (⟨_, rfl⟩) (.cons (⟨_, rfl⟩) (.nil)))))⟩; exact ⟨_, gv3_FORMS, kti_mk gt3_FORMS (Nat.le_of_ble_eq_true rfl) (.cons (⟨_, rfl⟩) (.cons (⟨_, rfl⟩) (.cons (⟨_, rfl⟩) (.nil))))⟩)
      exc := ⟨by intro n hn; rw [List.mem_singleton.mp hn]; exact E_NoText, by intro n hn; rw [List.mem_singleton.mp hn]; exact top_mk ca_NoText ca_FolkError cb_FolkError cd_FolkError ct_FolkError cf_NoText, by intro n hn; rw [List.mem_singleton.mp hn]; (intro m hm; rw [List.mem_singleton.mp hm]; exact two_eq), mgF_mk X G ca_FolkError⟩
      ox_NoText := ox_mk X G rfl ca_NoText co_NoText gk_NoText cs_NoText cb_NoText ct_NoText ck_NoText cn_NoText ci_NoText cy_NoText cl_NoText cc2_NoText ck2_NoText (fun _ _ _ _ _ _ us hl => match us, hl with | [_, _], _ => rfl) ca_FolkError cr_F cg_F cf_F
      exy_NoBack := ⟨gY_mk X G ca_NoBack, by intro n hn; rw [List.mem_singleton.mp hn]; exact two2_mk ca_NoText ca_NoBack cp_NoText_NoBack cp_NoText_NoText cd_NoBack ct_NoBack⟩
      exy_NoFall := ⟨gY_mk X G ca_NoFall, by intro n hn; rw [List.mem_singleton.mp hn]; exact two2_mk ca_NoText ca_NoFall cp_NoText_NoFall cp_NoText_NoText cd_NoFall ct_NoFall⟩
      exy_NoFit := ⟨gY_mk X G ca_NoFit, by intro n hn; rw [List.mem_singleton.mp hn]; exact two2_mk ca_NoText ca_NoFit cp_NoText_NoFit cp_NoText_NoText cd_NoFit ct_NoFit⟩
      exy_NoFixed := ⟨gY_mk X G ca_NoFixed, by intro n hn; rw [List.mem_singleton.mp hn]; exact two2_mk ca_NoText ca_NoFixed cp_NoText_NoFixed cp_NoText_NoText cd_NoFixed ct_NoFixed⟩
      exy_NoFolk := ⟨gY_mk X G ca_NoFolk, by intro n hn; rw [List.mem_singleton.mp hn]; exact two2_mk ca_NoText ca_NoFolk cp_NoText_NoFolk cp_NoText_NoText cd_NoFolk ct_NoFolk⟩
      exy_NoHand := ⟨gY_mk X G ca_NoHand, by intro n hn; rw [List.mem_singleton.mp hn]; exact two2_mk ca_NoText ca_NoHand cp_NoText_NoHand cp_NoText_NoText cd_NoHand ct_NoHand⟩
      exy_NoLine := ⟨gY_mk X G ca_NoLine, by intro n hn; rw [List.mem_singleton.mp hn]; exact two2_mk ca_NoText ca_NoLine cp_NoText_NoLine cp_NoText_NoText cd_NoLine ct_NoLine⟩
      exy_NoNames := ⟨gY_mk X G ca_NoNames, by intro n hn; rw [List.mem_singleton.mp hn]; exact two2_mk ca_NoText ca_NoNames cp_NoText_NoNames cp_NoText_NoText cd_NoNames ct_NoNames⟩
      exy_NoNumber := ⟨gY_mk X G ca_NoNumber, by intro n hn; rw [List.mem_singleton.mp hn]; exact two2_mk ca_NoText ca_NoNumber cp_NoText_NoNumber cp_NoText_NoText cd_NoNumber ct_NoNumber⟩
      exy_NoPaper := ⟨gY_mk X G ca_NoPaper, by intro n hn; rw [List.mem_singleton.mp hn]; exact two2_mk ca_NoText ca_NoPaper cp_NoText_NoPaper cp_NoText_NoText cd_NoPaper ct_NoPaper⟩
      exy_NoRanking := ⟨gY_mk X G ca_NoRanking, by intro n hn; rw [List.mem_singleton.mp hn]; exact two2_mk ca_NoText ca_NoRanking cp_NoText_NoRanking cp_NoText_NoText cd_NoRanking ct_NoRanking⟩
      exy_NoRow := ⟨gY_mk X G ca_NoRow, by intro n hn; rw [List.mem_singleton.mp hn]; exact two2_mk ca_NoText ca_NoRow cp_NoText_NoRow cp_NoText_NoText cd_NoRow ct_NoRow⟩
      exy_NoRule := ⟨gY_mk X G ca_NoRule, by intro n hn; rw [List.mem_singleton.mp hn]; exact two2_mk ca_NoText ca_NoRule cp_NoText_NoRule cp_NoText_NoText cd_NoRule ct_NoRule⟩
      exy_NoTitle := ⟨gY_mk X G ca_NoTitle, by intro n hn; rw [List.mem_singleton.mp hn]; exact two2_mk ca_NoText ca_NoTitle cp_NoText_NoTitle cp_NoText_NoText cd_NoTitle ct_NoTitle⟩
      exy_NoTops := ⟨gY_mk X G ca_NoTops, by intro n hn; rw [List.mem_singleton.mp hn]; exact two2_mk ca_NoText ca_NoTops cp_NoText_NoTops cp_NoText_NoText cd_NoTops ct_NoTops⟩
      exy_NoTree := ⟨gY_mk X G ca_NoTree, by intro n hn; rw [List.mem_singleton.mp hn]; exact two2_mk ca_NoText ca_NoTree cp_NoText_NoTree cp_NoText_NoText cd_NoTree ct_NoTree⟩
      exy_NoWeights := ⟨gY_mk X G ca_NoWeights, by intro n hn; rw [List.mem_singleton.mp hn]; exact two2_mk ca_NoText ca_NoWeights cp_NoText_NoWeights cp_NoText_NoText cd_NoWeights ct_NoWeights⟩
      exy_TooGreat := ⟨gY_mk X G ca_TooGreat, by intro n hn; rw [List.mem_singleton.mp hn]; exact two2_mk ca_NoText ca_TooGreat cp_NoText_TooGreat cp_NoText_NoText cd_TooGreat ct_TooGreat⟩
      d_number_of := wr_mk X G a_number_of l_number_of c_number_of k_number_of fun _ _ _ _ _ _ us hl => match us, hl with | [_], _ => rfl
      d_tie_by := wr_mk X G a_tie_by l_tie_by c_tie_by k_tie_by fun _ _ _ _ _ _ us hl => match us, hl with | [_], _ => rfl
      d_numbers_by := wr_mk X G a_numbers_by l_numbers_by c_numbers_by k_numbers_by fun _ _ _ _ _ _ us hl => match us, hl with | [_, _], _ => rfl
      d_lists_by := wr_mk X G a_lists_by l_lists_by c_lists_by k_lists_by fun _ _ _ _ _ _ us hl => match us, hl with | [_, _], _ => rfl
      d_ties_by := wr_mk X G a_ties_by l_ties_by c_ties_by k_ties_by fun _ _ _ _ _ _ us hl => match us, hl with | [_], _ => rfl
      d_read_paper := wr_mk X G a_read_paper l_read_paper c_read_paper k_read_paper fun _ _ _ _ _ _ us hl => match us, hl with | [_], _ => rfl
      d__law_mix := wr_mk X G a__law_mix l__law_mix c__law_mix k__law_mix fun _ _ _ _ _ _ us hl => match us, hl with | [_, _], _ => rfl
      d__law_left := wr_mk X G a__law_left l__law_left c__law_left k__law_left fun _ _ _ _ _ _ us hl => match us, hl with | [_], _ => rfl
      d__law_draw := wr_mk X G a__law_draw l__law_draw c__law_draw k__law_draw fun _ _ _ _ _ _ us hl => match us, hl with | [_, _], _ => rfl
      d__law_numbers := wr_mk X G a__law_numbers l__law_numbers c__law_numbers k__law_numbers fun _ _ _ _ _ _ us hl => match us, hl with | [_, _], _ => rfl
      d__law_drawn := wr_mk X G a__law_drawn l__law_drawn c__law_drawn k__law_drawn fun _ _ _ _ _ _ us hl => match us, hl with | [_], _ => rfl
      d__law_text := wr_mk X G a__law_text l__law_text c__law_text k__law_text fun _ _ _ _ _ _ us hl => match us, hl with | [_], _ => rfl
      d__law_marks := wr_mk X G a__law_marks l__law_marks c__law_marks k__law_marks fun _ _ _ _ _ _ us hl => match us, hl with | [_], _ => rfl
      d__law_figured := wr_mk X G a__law_figured l__law_figured c__law_figured k__law_figured fun _ _ _ _ _ _ us hl => match us, hl with | [_], _ => rfl
      d__law_tie := wr_mk X G a__law_tie l__law_tie c__law_tie k__law_tie fun _ _ _ _ _ _ us hl => match us, hl with | [_], _ => rfl
      d__law_shape := wr_mk X G a__law_shape l__law_shape c__law_shape k__law_shape fun _ _ _ _ _ _ us hl => match us, hl with | [_], _ => rfl
      d__law_marks_of := wr_mk X G a__law_marks_of l__law_marks_of c__law_marks_of k__law_marks_of fun _ _ _ _ _ _ us hl => match us, hl with | [_], _ => rfl
      d__law_wrong := wr_mk X G a__law_wrong l__law_wrong c__law_wrong k__law_wrong fun _ _ _ _ _ _ us hl => match us, hl with | [_], _ => rfl
      d__law_paper := wr_mk X G a__law_paper l__law_paper c__law_paper k__law_paper fun _ _ _ _ _ _ us hl => match us, hl with | [_], _ => rfl
      d__law_told := wr_mk X G a__law_told l__law_told c__law_told k__law_told fun _ _ _ _ _ _ us hl => match us, hl with | [_], _ => rfl
      d__law_bent := wr_mk X G a__law_bent l__law_bent c__law_bent k__law_bent fun _ _ _ _ _ _ us hl => match us, hl with | [_, _], _ => rfl
      d__law_refusals_held := wr_mk X G a__law_refusals_held l__law_refusals_held c__law_refusals_held k__law_refusals_held fun _ _ _ _ _ _ us hl => match us, hl with | [], _ => rfl }
  have e := hfa.symm.trans (PySem.W.mg_of X G a_law)
  cases e
  refine ⟨PySem.W.fnOf "law" "law" (defArgs (top 49)) (defBody (top 49)) (defScope (top 49)) .none kV_law dc_law pm_law an_law cd_law ct_law, fun s v => .of_eq rfl, fun base _ _ => ?_⟩
  let cl : String → Addr := clOf K
  have q_number_of := w_number_of (P := P) (w := w) (base := base) T   
  have q_tie_by := w_tie_by (P := P) (w := w) (base := base) T q_number_of  
  have q_numbers_by := w_numbers_by (P := P) (w := w) (base := base) T q_number_of  
  have q_lists_by := w_lists_by (P := P) (w := w) (base := base) T q_numbers_by  
  have q_ties_by := w_ties_by (P := P) (w := w) (base := base) T q_tie_by  
  have q_read_paper := w_read_paper (P := P) (w := w) (base := base) T q_numbers_by q_lists_by q_ties_by  
  have q__law_mix := w__law_mix (P := P) (w := w) (base := base) T   
  have q__law_left := w__law_left (P := P) (w := w) (base := base) T   
  have q__law_draw := w__law_draw (P := P) (w := w) (base := base) T q__law_mix  
  have q__law_numbers := w__law_numbers (P := P) (w := w) (base := base) T q__law_draw  
  have q__law_drawn := w__law_drawn (P := P) (w := w) (base := base) T q__law_draw q__law_numbers  
  have q__law_text := w__law_text (P := P) (w := w) (base := base) T   
  have q__law_marks := w__law_marks (P := P) (w := w) (base := base) T   
  have q__law_figured := w__law_figured (P := P) (w := w) (base := base) T   
  have q__law_tie := w__law_tie (P := P) (w := w) (base := base) T q__law_figured  
  have q__law_shape := w__law_shape (P := P) (w := w) (base := base) T   
  have q__law_marks_of := w__law_marks_of (P := P) (w := w) (base := base) T   
  have q__law_wrong := w__law_wrong (P := P) (w := w) (base := base) T q__law_figured q__law_tie q__law_shape q__law_marks_of  
  have q__law_paper := w__law_paper (P := P) (w := w) (base := base) T q__law_tie  
  have q__law_told := w__law_told (P := P) (w := w) (base := base) T q_read_paper q__law_marks  
  have q__law_bent := w__law_bent (P := P) (w := w) (base := base) T q__law_draw  
  have q__law_refusals_held := w__law_refusals_held (P := P) (w := w) (base := base) T q_read_paper  
  exact w_law (P := P) (w := w) (base := base) T law_k83_ok q__law_left q__law_drawn q__law_text q__law_wrong q__law_paper q__law_told q__law_bent q__law_refusals_held   (fun_mk l_law c_law k_law)
end K83
end DL
open PySem PySem.W PyProof.Rows in
set_option maxRecDepth 100000 in
set_option maxHeartbeats 0 in
theorem PySem.Challenge.cw_ontheline_k83_texts_of_no_paper_holds : PySem.Challenge.rw_ontheline_k83_texts_of_no_paper.Holds := by
  w_on; o_law; k_head; (case hw => w_witness2)
  k_fill
  refine DL.walk (l := PySem.Challenge.rw_ontheline_k83_texts_of_no_paper) (k := 7) (x := "_law_script") rfl rfl ⟨rfl, by decide, by decide⟩ (by unfold DL.tabA; rfl) (fun w h Y => PySem.W.kIn_of Y) ?F
  case F =>
    intro w mg fa h KX G hmg
    refine' DL.K83.all_mk KX G hmg ?a_number_of ?l_number_of ?c_number_of ?k_number_of ?a_tie_by ?l_tie_by ?c_tie_by ?k_tie_by ?a_numbers_by ?l_numbers_by ?c_numbers_by ?k_numbers_by ?a_lists_by ?l_lists_by ?c_lists_by ?k_lists_by ?a_ties_by ?l_ties_by ?c_ties_by ?k_ties_by ?a_read_paper ?l_read_paper ?c_read_paper ?k_read_paper ?a__law_mix ?l__law_mix ?c__law_mix ?k__law_mix ?a__law_left ?l__law_left ?c__law_left ?k__law_left ?a__law_draw ?l__law_draw ?c__law_draw ?k__law_draw ?a__law_numbers ?l__law_numbers ?c__law_numbers ?k__law_numbers ?a__law_drawn ?l__law_drawn ?c__law_drawn ?k__law_drawn ?a__law_text ?l__law_text ?c__law_text ?k__law_text ?a__law_marks ?l__law_marks ?c__law_marks ?k__law_marks ?a__law_figured ?l__law_figured ?c__law_figured ?k__law_figured ?a__law_tie ?l__law_tie ?c__law_tie ?k__law_tie ?a__law_shape ?l__law_shape ?c__law_shape ?k__law_shape ?a__law_marks_of ?l__law_marks_of ?c__law_marks_of ?k__law_marks_of ?a__law_wrong ?l__law_wrong ?c__law_wrong ?k__law_wrong ?a__law_paper ?l__law_paper ?c__law_paper ?k__law_paper ?a__law_told ?l__law_told ?c__law_told ?k__law_told ?a__law_bent ?l__law_bent ?c__law_bent ?k__law_bent ?a__law_refusals_held ?l__law_refusals_held ?c__law_refusals_held ?k__law_refusals_held ?a_law ?l_law ?c_law ?k_law ?z_int ?z_len ?z_all ?z_enumerate ?z_range ?z_tuple ?z_list ?z_str ?z_isinstance ?z_ValueError ?z_zip ?z_bool ?g_MOST_FIGURES ?g_FIGURES ?ga_LISTS ?gl_LISTS ?ga_FORMS ?gl_FORMS ?gk_FORMS ?gs_FORMS ?gv0_FORMS ?gt0_FORMS ?gv1_FORMS ?gt1_FORMS ?gv2_FORMS ?gt2_FORMS ?gv3_FORMS ?gt3_FORMS ?ca_NoText ?cb_NoText ?ct_NoText ?cd_NoText ?ca_FolkError ?cb_FolkError ?ct_FolkError ?cd_FolkError ?ck_NoText ?cv_NoText ?cg_NoText ?ch_NoText ?cc_NoText ?cm_NoText ?cf_NoText ?cp_NoText_NoText ?ca_NoBack ?ct_NoBack ?cd_NoBack ?cp_NoText_NoBack ?ca_NoFall ?ct_NoFall ?cd_NoFall ?cp_NoText_NoFall ?ca_NoFit ?ct_NoFit ?cd_NoFit ?cp_NoText_NoFit ?ca_NoFixed ?ct_NoFixed ?cd_NoFixed ?cp_NoText_NoFixed ?ca_NoFolk ?ct_NoFolk ?cd_NoFolk ?cp_NoText_NoFolk ?ca_NoHand ?ct_NoHand ?cd_NoHand ?cp_NoText_NoHand ?ca_NoLine ?ct_NoLine ?cd_NoLine ?cp_NoText_NoLine ?ca_NoNames ?ct_NoNames ?cd_NoNames ?cp_NoText_NoNames ?ca_NoNumber ?ct_NoNumber ?cd_NoNumber ?cp_NoText_NoNumber ?ca_NoPaper ?ct_NoPaper ?cd_NoPaper ?cp_NoText_NoPaper ?ca_NoRanking ?ct_NoRanking ?cd_NoRanking ?cp_NoText_NoRanking ?ca_NoRow ?ct_NoRow ?cd_NoRow ?cp_NoText_NoRow ?ca_NoRule ?ct_NoRule ?cd_NoRule ?cp_NoText_NoRule ?ca_NoTitle ?ct_NoTitle ?cd_NoTitle ?cp_NoText_NoTitle ?ca_NoTops ?ct_NoTops ?cd_NoTops ?cp_NoText_NoTops ?ca_NoTree ?ct_NoTree ?cd_NoTree ?cp_NoText_NoTree ?ca_NoWeights ?ct_NoWeights ?cd_NoWeights ?cp_NoText_NoWeights ?ca_TooGreat ?ct_TooGreat ?cd_TooGreat ?cp_NoText_TooGreat ?co_NoText ?gk_NoText ?cs_NoText ?cn_NoText ?ci_NoText ?cy_NoText ?cl_NoText ?cc2_NoText ?ck2_NoText ?cr_F ?cg_F ?cf_F ?c0_s ?c0_t
    (case a_number_of => k_is)
    (case l_number_of => k_is)
    (case c_number_of => k_is)
    (case k_number_of => k_is)
    (case a_tie_by => k_is)
    (case l_tie_by => k_is)
    (case c_tie_by => k_is)
    (case k_tie_by => k_is)
    (case a_numbers_by => k_is)
    (case l_numbers_by => k_is)
    (case c_numbers_by => k_is)
    (case k_numbers_by => k_is)
    (case a_lists_by => k_is)
    (case l_lists_by => k_is)
    (case c_lists_by => k_is)
    (case k_lists_by => k_is)
    (case a_ties_by => k_is)
    (case l_ties_by => k_is)
    (case c_ties_by => k_is)
    (case k_ties_by => k_is)
    (case a_read_paper => k_is)
    (case l_read_paper => k_is)
    (case c_read_paper => k_is)
    (case k_read_paper => k_is)
    (case a__law_mix => k_is)
    (case l__law_mix => k_is)
    (case c__law_mix => k_is)
    (case k__law_mix => k_is)
    (case a__law_left => k_is)
    (case l__law_left => k_is)
    (case c__law_left => k_is)
    (case k__law_left => k_is)
    (case a__law_draw => k_is)
    (case l__law_draw => k_is)
    (case c__law_draw => k_is)
    (case k__law_draw => k_is)
    (case a__law_numbers => k_is)
    (case l__law_numbers => k_is)
    (case c__law_numbers => k_is)
    (case k__law_numbers => k_is)
    (case a__law_drawn => k_is)
    (case l__law_drawn => k_is)
    (case c__law_drawn => k_is)
    (case k__law_drawn => k_is)
    (case a__law_text => k_is)
    (case l__law_text => k_is)
    (case c__law_text => k_is)
    (case k__law_text => k_is)
    (case a__law_marks => k_is)
    (case l__law_marks => k_is)
    (case c__law_marks => k_is)
    (case k__law_marks => k_is)
    (case a__law_figured => k_is)
    (case l__law_figured => k_is)
    (case c__law_figured => k_is)
    (case k__law_figured => k_is)
    (case a__law_tie => k_is)
    (case l__law_tie => k_is)
    (case c__law_tie => k_is)
    (case k__law_tie => k_is)
    (case a__law_shape => k_is)
    (case l__law_shape => k_is)
    (case c__law_shape => k_is)
    (case k__law_shape => k_is)
    (case a__law_marks_of => k_is)
    (case l__law_marks_of => k_is)
    (case c__law_marks_of => k_is)
    (case k__law_marks_of => k_is)
    (case a__law_wrong => k_is)
    (case l__law_wrong => k_is)
    (case c__law_wrong => k_is)
    (case k__law_wrong => k_is)
    (case a__law_paper => k_is)
    (case l__law_paper => k_is)
    (case c__law_paper => k_is)
    (case k__law_paper => k_is)
    (case a__law_told => k_is)
    (case l__law_told => k_is)
    (case c__law_told => k_is)
    (case k__law_told => k_is)
    (case a__law_bent => k_is)
    (case l__law_bent => k_is)
    (case c__law_bent => k_is)
    (case k__law_bent => k_is)
    (case a__law_refusals_held => k_is)
    (case l__law_refusals_held => k_is)
    (case c__law_refusals_held => k_is)
    (case k__law_refusals_held => k_is)
    (case a_law => k_is)
    (case l_law => k_is)
    (case c_law => k_is)
    (case k_law => k_is)
    (case z_int => k_is)
    (case z_len => k_is)
    (case z_all => k_is)
    (case z_enumerate => k_is)
    (case z_range => k_is)
    (case z_tuple => k_is)
    (case z_list => k_is)
    (case z_str => k_is)
    (case z_isinstance => k_is)
    (case z_ValueError => k_is)
    (case z_zip => k_is)
    (case z_bool => k_is)
    (case g_MOST_FIGURES => k_is)
    (case g_FIGURES => k_is)
    (case ga_LISTS => k_is)
    (case gl_LISTS => k_is)
    (case ga_FORMS => k_is)
    (case gl_FORMS => k_is)
    (case gk_FORMS => rfl)
    (case gs_FORMS => first | rfl | decide)
    (case gv0_FORMS => k_is)
    (case gt0_FORMS => k_is)
    (case gv1_FORMS => k_is)
    (case gt1_FORMS => k_is)
    (case gv2_FORMS => k_is)
    (case gt2_FORMS => k_is)
    (case gv3_FORMS => k_is)
    (case gt3_FORMS => k_is)
    (case ca_NoText => k_is)
    (case cb_NoText => k_is)
    (case ct_NoText => k_is)
    (case cd_NoText => k_is)
    (case ca_FolkError => k_is)
    (case cb_FolkError => k_is)
    (case ct_FolkError => k_is)
    (case cd_FolkError => k_is)
    (case ck_NoText => k_is)
    (case cv_NoText => k_is)
    (case cg_NoText => k_is)
    (case ch_NoText => k_is)
    (case cc_NoText => k_is)
    (case cm_NoText => k_is)
    (case cf_NoText => k_is)
    (case cp_NoText_NoText => k_is)
    (case ca_NoBack => k_is)
    (case ct_NoBack => k_is)
    (case cd_NoBack => k_is)
    (case cp_NoText_NoBack => k_is)
    (case ca_NoFall => k_is)
    (case ct_NoFall => k_is)
    (case cd_NoFall => k_is)
    (case cp_NoText_NoFall => k_is)
    (case ca_NoFit => k_is)
    (case ct_NoFit => k_is)
    (case cd_NoFit => k_is)
    (case cp_NoText_NoFit => k_is)
    (case ca_NoFixed => k_is)
    (case ct_NoFixed => k_is)
    (case cd_NoFixed => k_is)
    (case cp_NoText_NoFixed => k_is)
    (case ca_NoFolk => k_is)
    (case ct_NoFolk => k_is)
    (case cd_NoFolk => k_is)
    (case cp_NoText_NoFolk => k_is)
    (case ca_NoHand => k_is)
    (case ct_NoHand => k_is)
    (case cd_NoHand => k_is)
    (case cp_NoText_NoHand => k_is)
    (case ca_NoLine => k_is)
    (case ct_NoLine => k_is)
    (case cd_NoLine => k_is)
    (case cp_NoText_NoLine => k_is)
    (case ca_NoNames => k_is)
    (case ct_NoNames => k_is)
    (case cd_NoNames => k_is)
    (case cp_NoText_NoNames => k_is)
    (case ca_NoNumber => k_is)
    (case ct_NoNumber => k_is)
    (case cd_NoNumber => k_is)
    (case cp_NoText_NoNumber => k_is)
    (case ca_NoPaper => k_is)
    (case ct_NoPaper => k_is)
    (case cd_NoPaper => k_is)
    (case cp_NoText_NoPaper => k_is)
    (case ca_NoRanking => k_is)
    (case ct_NoRanking => k_is)
    (case cd_NoRanking => k_is)
    (case cp_NoText_NoRanking => k_is)
    (case ca_NoRow => k_is)
    (case ct_NoRow => k_is)
    (case cd_NoRow => k_is)
    (case cp_NoText_NoRow => k_is)
    (case ca_NoRule => k_is)
    (case ct_NoRule => k_is)
    (case cd_NoRule => k_is)
    (case cp_NoText_NoRule => k_is)
    (case ca_NoTitle => k_is)
    (case ct_NoTitle => k_is)
    (case cd_NoTitle => k_is)
    (case cp_NoText_NoTitle => k_is)
    (case ca_NoTops => k_is)
    (case ct_NoTops => k_is)
    (case cd_NoTops => k_is)
    (case cp_NoText_NoTops => k_is)
    (case ca_NoTree => k_is)
    (case ct_NoTree => k_is)
    (case cd_NoTree => k_is)
    (case cp_NoText_NoTree => k_is)
    (case ca_NoWeights => k_is)
    (case ct_NoWeights => k_is)
    (case cd_NoWeights => k_is)
    (case cp_NoText_NoWeights => k_is)
    (case ca_TooGreat => k_is)
    (case ct_TooGreat => k_is)
    (case cd_TooGreat => k_is)
    (case cp_NoText_TooGreat => k_is)
    (case co_NoText => k_is)
    (case gk_NoText => rfl)
    (case cs_NoText => k_is)
    (case cn_NoText => k_is)
    (case ci_NoText => k_is)
    (case cy_NoText => k_is)
    (case cl_NoText => k_is)
    (case cc2_NoText => k_is)
    (case ck2_NoText => k_is)
    (case cr_F => k_is)
    (case cg_F => k_is)
    (case cf_F => k_is)
    (case c0_s => k_is)
    (case c0_t => k_is)
