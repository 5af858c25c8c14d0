import PyProof.Rows.All
import Wide.All
import OpenK.AllK
import Wide.FinOn
import HandS.ForMost
import HandS.ForSpec
import HandS.Evl
import HandS.Deep
import HandS.IsInst
import HandS.SortInts
import HandS.Style
import HandS.NoneIn
import HandS.Wide
import HandS.TupAny
import KE.DataEq
import KE.SortCalls
import HandS.Remove
import HandS.SetFor
import HandS.Strs
import HandS.Conv
import PyProof.StrLawsRepr
import HandS.ExcIs
import HandS.ExcOwn
import HandS.ExcValue
import HandS.ExcInit
import HandS.ClsMeth
import KE.KExcIs
import HandS.ExcField
import PySem.Challenge.RW_ontheline_k54_weights_and_lines_refused
set_option Elab.async false
set_option linter.all false
set_option maxRecDepth 100000
set_option maxHeartbeats 4000000
/-! DL: a layer of values over the layer of heaps -/
noncomputable section
namespace DL
open PySem L2
open Evl (Ex)

/-! ### data -/
structure Exn where
  name : String
  arg : Option PyData
inductive OD where
  | dict (kvs : List (Key × PyData)) | dictT (kvs : List (List Key × PyData)) | exc (x : Exn) | set (S : Int → Bool) (n : Nat) | scr (ns : List Int) | excs (n : String) (is : List Int)
inductive R where
  | val (d : PyData) | new (ds : List PyData) | slot (i : Nat) | raw (v : V) | ob (o : OD)
inductive Sl where
  | no | val (d : PyData) | own (ds : List PyData) | raw (v : V) | ob (o : OD)
abbrev Pw := Option (Addr × Addr × List Int × Int)
structure DSt where
  d : List Sl
  w : Pw
inductive Res (α : Type) where
  | ok (a : α) (s : DSt) | err (x : Exn) (s : DSt) | stuck
inductive Flow where
  | next (s : DSt) | ret (r : R) (s : DSt) | brk (s : DSt) | cnt (s : DSt) | err (x : Exn) (s : DSt) | stuck
inductive FRes where
  | ok (r : R) (w : Pw) | err (x : Exn) (w : Pw) | stuck

abbrev M (α : Type) := DSt → Res α
def inB (j : Int) : Prop := -(2 ^ 62) ≤ j ∧ j < 2 ^ 62
instance (j : Int) : Decidable (inB j) := Classical.propDecidable _
def inW (j : Int) : Prop := -(2 ^ 63) ≤ j ∧ j < 2 ^ 63
instance (j : Int) : Decidable (inW j) := Classical.propDecidable _
def leS (n : Nat) : Prop := n ≤ sizeLine
instance (n : Nat) : Decidable (leS n) := Classical.propDecidable _
def ltS (n : Nat) : Prop := n < sizeLine
instance (n : Nat) : Decidable (ltS n) := Classical.propDecidable _
def lgM (a b : Int) : Prop := a.natAbs.log2 + b.natAbs.log2 < 1000000
instance (a b : Int) : Decidable (lgM a b) := Classical.propDecidable _
def lgD (a : Int) : Prop := a.natAbs.log2 < 9000
instance (a : Int) : Decidable (lgD a) := Classical.propDecidable _
def lgP (a : Int) : Prop := a.natAbs.log2 < 4000
instance (a : Int) : Decidable (lgP a) := Classical.propDecidable _
def leP (a : Int) : Prop := a ≤ 30000
instance (a : Int) : Decidable (leP a) := Classical.propDecidable _
def Res.bind {α β : Type} (r : Res α) (g : α → M β) : Res β := match r with
  | .ok a s => g a s
  | .err x s => .err x s
  | .stuck => .stuck
def bnd {α β : Type} (f : M α) (g : α → M β) : M β := fun s => (f s).bind g
def ret {α : Type} (a : α) : M α := fun s => .ok a s
def stk {α : Type} : M α := fun _ => .stuck
@[simp] theorem bnd_app {α β : Type} (f : M α) (g : α → M β) (s : DSt) : bnd f g s = (f s).bind g := rfl
@[simp] theorem bind_ok {α β : Type} (a : α) (s : DSt) (g : α → M β) : (Res.ok a s).bind g = g a s := rfl
@[simp] theorem bind_err {α β : Type} (x : Exn) (s : DSt) (g : α → M β) : (Res.err x s : Res α).bind g = .err x s := rfl
@[simp] theorem bind_stuck {α β : Type} (g : α → M β) : (Res.stuck : Res α).bind g = .stuck := rfl
@[simp] theorem ret_app {α : Type} (a : α) (s : DSt) : ret a s = .ok a s := rfl
@[simp] theorem stk_app {α : Type} (s : DSt) : (stk s : Res α) = .stuck := rfl

/-! ### data as it stands in a heap -/
mutual
inductive Rp (K : PySem.W.Frag) (H : Hp) : V → PyData → Prop
  | non : Rp K H .non .none
  | bl (b : Bool) : Rp K H (.bl b) (.bool b)
  | int (i : Int) : Rp K H (.int i) (.int i)
  | str (x : Str) : Rp K H (.str x) (.str x)
  | lst {a : Addr} {xs : List V} {ds : List PyData} : H a = some (.lst xs) → RpAll K H xs ds → Rp K H (.ref a) (.list ds)
  | tup {a : Addr} {xs : List V} {ds : List PyData} : H a = some (.tup xs) → RpAll K H xs ds → Rp K H (.ref a) (.tuple ds)
inductive RpAll (K : PySem.W.Frag) (H : Hp) : List V → List PyData → Prop
  | nil : RpAll K H [] []
  | cons {v : V} {vs : List V} {d : PyData} {ds : List PyData} : Rp K H v d → RpAll K H vs ds → RpAll K H (v :: vs) (d :: ds)
end
mutual
theorem rp_dp {K : PySem.W.Frag} {H : Hp} : ∀ (d : PyData) (v : V), Rp K H v d → Dp K H v d
  | .none, _, h => by cases h; exact .non
  | .bool b, _, h => by cases h; exact .bl b
  | .int i, _, h => by cases h; exact .int i
  | .str x, _, h => by cases h; exact .str x
  | .list ds, _, h => by
    cases h with
    | lst hs ha => exact .lst (.of hs) (rps_dps ds _ ha)
  | .tuple ds, _, h => by
    cases h with
    | tup hs ha => exact .tup (.of hs) (rps_dps ds _ ha)
  | .dict _, _, h => by cases h
theorem rps_dps {K : PySem.W.Frag} {H : Hp} : ∀ (ds : List PyData) (vs : List V), RpAll K H vs ds → DpAll K H vs ds
  | [], _, h => by cases h; exact .nil
  | d :: ds, _, h => by
    cases h with
    | cons h1 h2 => exact .cons (rp_dp d _ h1) (rps_dps ds _ h2)
end
mutual
theorem rp_plain {K : PySem.W.Frag} {H : Hp} : ∀ (d : PyData) (v : V), Rp K H v d → d.plain = true
  | .none, _, _ => rfl
  | .bool b, _, _ => rfl
  | .int i, _, _ => rfl
  | .str x, _, _ => rfl
  | .list ds, _, h => by
    cases h with
    | lst hs ha => simp only [PyData.plain]; exact rps_plain ds _ ha
  | .tuple ds, _, h => by
    cases h with
    | tup hs ha => simp only [PyData.plain]; exact rps_plain ds _ ha
  | .dict _, _, h => by cases h
theorem rps_plain {K : PySem.W.Frag} {H : Hp} : ∀ (ds : List PyData) (vs : List V), RpAll K H vs ds → PyData.plainAll ds = true
  | [], _, h => rfl
  | d :: ds, _, h => by
    cases h with
    | cons h1 h2 => simp [PyData.plainAll, rp_plain d _ h1, rps_plain ds _ h2]
end
mutual
theorem dp_mono {K : PySem.W.Frag} {H H' : Hp} (e : Ex H H') : ∀ (d : PyData) (v : V), Rp K H v d → Rp K H' v d
  | .none, _, h => by cases h; exact .non
  | .bool b, _, h => by cases h; exact .bl b
  | .int i, _, h => by cases h; exact .int i
  | .str x, _, h => by cases h; exact .str x
  | .list ds, _, h => by
    cases h with
    | lst hs ha => exact .lst (e _ _ hs) (dps_mono e ds _ ha)
  | .tuple ds, _, h => by
    cases h with
    | tup hs ha => exact .tup (e _ _ hs) (dps_mono e ds _ ha)
  | .dict _, _, h => by cases h
theorem dps_mono {K : PySem.W.Frag} {H H' : Hp} (e : Ex H H') : ∀ (ds : List PyData) (vs : List V), RpAll K H vs ds → RpAll K H' vs ds
  | [], _, h => by cases h; exact .nil
  | d :: ds, _, h => by
    cases h with
    | cons h1 h2 => exact .cons (dp_mono e d _ h1) (dps_mono e ds _ h2)
end
theorem dps_len {K : PySem.W.Frag} {H : Hp} : ∀ {ds : List PyData} {vs : List V}, RpAll K H vs ds → vs.length = ds.length
  | [], _, h => by cases h; rfl
  | d :: ds, _, h => by
    cases h with
    | cons h1 h2 => simp [dps_len h2]
theorem dps_get {K : PySem.W.Frag} {H : Hp} : ∀ {ds : List PyData} {vs : List V} {i : Nat} {v : V}, RpAll K H vs ds → vs[i]? = some v → ∃ d, ds[i]? = some d ∧ Rp K H v d
  | [], _, i, v, h, e => by cases h; simp at e
  | d :: ds, _, 0, v, h, e => by
    cases h with
    | cons h1 h2 => simp at e; subst e; exact ⟨d, rfl, h1⟩
  | d :: ds, _, i + 1, v, h, e => by
    cases h with
    | cons h1 h2 => simpa using dps_get (i := i) h2 (by simpa using e)
theorem dps_app {K : PySem.W.Frag} {H : Hp} : ∀ {ds es : List PyData} {vs us : List V}, RpAll K H vs ds → RpAll K H us es → RpAll K H (vs ++ us) (ds ++ es)
  | [], _, _, _, h, h' => by cases h; exact h'
  | d :: ds, _, _, _, h, h' => by
    cases h with
    | cons h1 h2 => exact .cons h1 (dps_app h2 h')
theorem dps_rev {K : PySem.W.Frag} {H : Hp} : ∀ {ds : List PyData} {vs : List V}, RpAll K H vs ds → RpAll K H vs.reverse ds.reverse
  | [], _, h => by cases h; exact .nil
  | d :: ds, _, h => by
    cases h with
    | cons h1 h2 => simp only [List.reverse_cons]; exact dps_app (dps_rev h2) (.cons h1 .nil)
theorem dps_take {K : PySem.W.Frag} {H : Hp} : ∀ {ds : List PyData} {vs : List V} (n : Nat), RpAll K H vs ds → RpAll K H (vs.take n) (ds.take n)
  | _, _, 0, _ => by simp; exact .nil
  | [], _, n + 1, h => by cases h; exact .nil
  | d :: ds, _, n + 1, h => by
    cases h with
    | cons h1 h2 => exact .cons h1 (dps_take n h2)
theorem dps_drop {K : PySem.W.Frag} {H : Hp} : ∀ {ds : List PyData} {vs : List V} (n : Nat), RpAll K H vs ds → RpAll K H (vs.drop n) (ds.drop n)
  | _, _, 0, h => by simpa using h
  | [], _, n + 1, h => by cases h; exact .nil
  | d :: ds, _, n + 1, h => by
    cases h with
    | cons h1 h2 => exact dps_drop n h2
theorem dps_erase {K : PySem.W.Frag} {H : Hp} : ∀ {ds : List PyData} {vs : List V} (n : Nat), RpAll K H vs ds → RpAll K H (vs.eraseIdx n) (ds.eraseIdx n)
  | [], _, n, h => by cases h; exact .nil
  | _ :: ds, _, 0, h => by
    cases h with
    | cons h1 h2 => exact h2
  | _ :: ds, _, n + 1, h => by
    cases h with
    | cons h1 h2 => exact .cons h1 (dps_erase n h2)

/-! ### other things -/
def clOf (K : PySem.W.Frag) (n : String) : Addr := match PySem.W.nsIn K mainGlobals (Str.ofString n) with
  | some (some (.ref a)) => a
  | _ => 0
theorem clOf_of {K : PySem.W.Frag} {n : String} {a : Addr} (h : PySem.W.nsIn K mainGlobals (Str.ofString n) = some (some (.ref a))) : clOf K n = a := by
  unfold clOf
  rw [h]
def fieldOf (n : String) : Str := if n = "NoFall" then "hand" else "at"
def ExA (K : PySem.W.Frag) (H : Hp) (n : String) (d : Option Addr) : Option PyData → Prop
  | none => d = none
  | some e => ∃ dd v, d = some dd ∧ H dd = some (.xd [(fieldOf n, v)]) ∧ Rp K H v e
def excO (a : Addr) (cls : Value) (d : Option Addr) : HO := .ext fun h => ∃ o, h.get? a = some o ∧ Zc cls d o ∧ ∃ vs, o.data = .fields vs
inductive KRp {κ : Type} (K : PySem.W.Frag) (H : Hp) : List (κ × V) → List (κ × PyData) → Prop
  | nil : KRp K H [] []
  | cons {k : κ} {v : V} {d : PyData} {xs : List (κ × V)} {ys : List (κ × PyData)} : Rp K H v d → KRp K H xs ys → KRp K H ((k, v) :: xs) ((k, d) :: ys)
inductive ExAll (K : PySem.W.Frag) (H : Hp) (n : String) : List V → List Int → Prop
  | nil : ExAll K H n [] []
  | cons {b d : Addr} {i : Int} {vs : List V} {is : List Int} : H b = some (excO b (.ref (clOf K n)) (some d)) → H d = some (.xd [(fieldOf n, .int i)]) → ExAll K H n vs is → ExAll K H n (.ref b :: vs) (i :: is)
theorem exall_mono {K : PySem.W.Frag} {H H' : Hp} (e : Ex H H') {n : String} : ∀ {vs : List V} {is : List Int}, ExAll K H n vs is → ExAll K H' n vs is
  | _, _, .nil => .nil
  | _, _, .cons h1 h2 t => .cons (e _ _ h1) (e _ _ h2) (exall_mono e t)
def ObRel (K : PySem.W.Frag) (H : Hp) (v : V) : OD → Prop
  | .dict kvs => ∃ a vs, v = .ref a ∧ H a = some (.dK vs) ∧ KRp K H vs kvs
  | .dictT kvs => ∃ a vs, v = .ref a ∧ H a = some (.dT vs) ∧ KRp K H vs kvs
  | .exc x => ∃ a d, v = .ref a ∧ H a = some (excO a (.ref (clOf K x.name)) d) ∧ ExA K H x.name d x.arg
  | .set S n => ∃ a, v = .ref a ∧ H a = some (.set S n)
  | .scr ns => ∃ a, v = .ref a ∧ SqL K H a (ns.map V.int)
  | .excs n is => ∃ a vs, v = .ref a ∧ H a = some (.lst vs) ∧ ExAll K H n vs is
theorem krp_mono {κ : Type} {K : PySem.W.Frag} {H H' : Hp} (e : Ex H H') : ∀ {vs : List (κ × V)} {kvs : List (κ × PyData)}, KRp K H vs kvs → KRp K H' vs kvs
  | _, _, .nil => .nil
  | _, _, .cons h t => .cons (dp_mono e _ _ h) (krp_mono e t)
theorem exa_mono {K : PySem.W.Frag} {H H' : Hp} (e : Ex H H') {n : String} {d : Option Addr} : ∀ {o : Option PyData}, ExA K H n d o → ExA K H' n d o
  | none, h => h
  | some x, ⟨dd, v, h1, h2, h3⟩ => ⟨dd, v, h1, e _ _ h2, dp_mono e _ _ h3⟩
theorem ob_mono {K : PySem.W.Frag} {H H' : Hp} (e : Ex H H') {v : V} : ∀ {o : OD}, ObRel K H v o → ObRel K H' v o
  | .dict kvs, ⟨a, vs, h1, h2, h3⟩ => ⟨a, vs, h1, e _ _ h2, krp_mono e h3⟩
  | .dictT kvs, ⟨a, vs, h1, h2, h3⟩ => ⟨a, vs, h1, e _ _ h2, krp_mono e h3⟩
  | .exc x, ⟨a, d, h1, h2, h3⟩ => ⟨a, d, h1, e _ _ h2, exa_mono e h3⟩
  | .set S n, ⟨a, h1, h2⟩ => ⟨a, h1, e _ _ h2⟩
  | .scr ns, ⟨a, h1, h2⟩ => ⟨a, h1, Evl.ex_l e h2⟩
  | .excs n is, ⟨a, vs, h1, h2, h3⟩ => ⟨a, vs, h1, e _ _ h2, exall_mono e h3⟩

/-! ### the state -/
def POwn (w : Pw) (a : Addr) : Prop := match w with
  | none => False
  | some (pa, ca, _, _) => a = pa ∨ a = ca
def OwnAt (s : DSt) (σ : L2.St) (i : Nat) (a : Addr) : Prop := (∃ ds, s.d[i]? = some (.own ds)) ∧ σ[i]? = some (some (.ref a))
def Own (s : DSt) (σ : L2.St) (a : Addr) : Prop := (∃ i, OwnAt s σ i a) ∨ POwn s.w a
def pwA (pa ca : Addr) (cells : List Int) (t : Int) : List V := if pa = ca then cells.map .int else [.ref ca, .int t]
def PwOk (G : Hp) (w : Pw) (H : Hp) : Prop := match w with
  | none => True
  | some (pa, ca, cells, t) => True ∧ H pa = some (.lst (pwA pa ca cells t)) ∧ H ca = some (.lst (cells.map .int)) ∧ G pa = none ∧ G ca = none
def SlOk (K : PySem.W.Frag) (G H : Hp) (x : Option V) : Sl → Prop
  | .no => True
  | .val d => ∃ v, x = some v ∧ Rp K G v d
  | .raw v => x = some v
  | .ob o => ∃ v, x = some v ∧ ObRel K G v o
  | .own ds => ∃ a xs, x = some (.ref a) ∧ H a = some (.lst xs) ∧ RpAll K G xs ds
structure SA (K : PySem.W.Frag) (G : Hp) (s : DSt) (σ : L2.St) (H : Hp) : Prop where
  len : s.d.length = σ.length
  gh : Ex G H
  slot : ∀ (i : Nat) (sl : Sl), s.d[i]? = some sl → SlOk K G H (σ[i]?.join) sl
  inj : ∀ i j a, OwnAt s σ i a → OwnAt s σ j a → i = j
  ownG : ∀ i a, OwnAt s σ i a → G a = none
  pw : PwOk G s.w H
  pne : ∀ i a, OwnAt s σ i a → ¬ POwn s.w a
structure Stp (G : Hp) (s : DSt) (σ : L2.St) (H : Hp) (G' : Hp) (s' : DSt) (σ' : L2.St) (H' : Hp) : Prop where
  ex : Ex G G'
  keep : ∀ a o, H a = some o → ¬ Own s σ a → H' a = some o ∧ G' a = G a
  own : ∀ a, Own s' σ' a → Own s σ a ∨ H a = none
  dom : ∀ a, H a ≠ none → H' a ≠ none
  pw : ∀ a, POwn s.w a → POwn s'.w a
theorem Stp.refl {G H : Hp} {s : DSt} {σ : L2.St} : Stp G s σ H G s σ H := ⟨Ex.refl G, fun _ _ h _ => ⟨h, rfl⟩, fun _ h => .inl h, fun _ h => h, fun _ h => h⟩
theorem Stp.trans {G G1 G2 H H1 H2 : Hp} {s s1 s2 : DSt} {σ σ1 σ2 : L2.St} (a : Stp G s σ H G1 s1 σ1 H1) (b : Stp G1 s1 σ1 H1 G2 s2 σ2 H2) : Stp G s σ H G2 s2 σ2 H2 where
  ex := a.ex.trans b.ex
  keep := fun x o h n => by
    obtain ⟨h1, g1⟩ := a.keep x o h n
    have n1 : ¬ Own s1 σ1 x := fun z => (a.own x z).elim n fun e => by rw [h] at e; cases e
    obtain ⟨h2, g2⟩ := b.keep x o h1 n1
    exact ⟨h2, g2.trans g1⟩
  own := fun x z => (b.own x z).elim (a.own x) fun e => .inr (Classical.byContradiction fun q => a.dom x q e)
  dom := fun x h => b.dom x (a.dom x h)
  pw := fun x h => b.pw x (a.pw x h)
def RRel (K : PySem.W.Frag) (H0 G : Hp) (s : DSt) (σ : L2.St) (H : Hp) (v : V) : R → Prop
  | .val d => Rp K G v d
  | .raw u => v = u
  | .ob o => ObRel K G v o
  | .slot i => σ[i]? = some (some v)
  | .new ds => ∃ a xs, v = .ref a ∧ H a = some (.lst xs) ∧ RpAll K G xs ds ∧ G a = none ∧ H0 a = none ∧ ¬ Own s σ a
theorem RRel.mono {K : PySem.W.Frag} {H0 G H G' H' : Hp} {s s' : DSt} {σ : L2.St} {v : V} {r : R} (h : RRel K H0 G s σ H v r) (t : Stp G s σ H G' s' σ H') : RRel K H0 G' s' σ H' v r := by
  cases r with
  | val d => exact dp_mono t.ex d v h
  | raw u => exact h
  | ob o => exact ob_mono t.ex h
  | slot i => exact h
  | new ds =>
    obtain ⟨a, xs, e, ha, hd, hg, h0, hn⟩ := h
    obtain ⟨h1, g1⟩ := t.keep a _ ha hn
    refine ⟨a, xs, e, h1, dps_mono t.ex _ _ hd, g1.trans hg, h0, fun z => (t.own a z).elim hn fun q => by rw [ha] at q; cases q⟩
theorem RRel.less {K : PySem.W.Frag} {H0 H1 G H : Hp} {s : DSt} {σ : L2.St} {v : V} {r : R} (h : RRel K H1 G s σ H v r) (d : ∀ a, H0 a ≠ none → H1 a ≠ none) : RRel K H0 G s σ H v r := by
  cases r with
  | val d => exact h
  | raw u => exact h
  | ob o => exact h
  | slot i => exact h
  | new ds =>
    obtain ⟨a, xs, e, ha, hd, hg, h0, hn⟩ := h
    exact ⟨a, xs, e, ha, hd, hg, Classical.byContradiction fun q => d a q h0, hn⟩
def look (r : R) (s : DSt) : Option PyData := match r with
  | .val d => some d
  | .raw _ => none
  | .ob _ => none
  | .new ds => some (.list ds)
  | .slot i => match s.d[i]? with
    | some (.own ds) => some (.list ds)
    | some (.val d) => some d
    | _ => none
end DL

/-! DL2: the judgements -/
noncomputable section
namespace DL
open PySem L2
open Evl (Ex)

def XRel (K : PySem.W.Frag) (cl : String → Addr) (x : Exn) (cls : Value) (d : Option Addr) (H : Hp) : Prop :=
  cls = .ref (cl x.name) ∧ ExA K H x.name d x.arg
section
variable (K : PySem.W.Frag) (cl : String → Addr) (W : WX)
def Out {α : Type} (G : Hp) (s : DSt) (σ : L2.St) (H : Hp) (r : Res α) (k : α → Hp → DSt → Hp → Prop) : Prop := match r with
  | .ok a s' => ∀ G' H', Stp G s σ H G' s' σ H' → SA K G' s' σ H' → k a G' s' H'
  | .err x s' => ∀ cls d G' H', Stp G s σ H G' s' σ H' → SA K G' s' σ H' → XRel K cl x cls d G' → W cls d σ H'
  | .stuck => False
def tD (f : M R) : TE := fun σ H Q => ∃ G s, SA K G s σ H ∧ Out K cl W G s σ H (f s) fun r G' s' H' => ∀ v, RRel K H G' s' σ H' v r → Q v H'
def tT (f : M Bool) : TT := fun σ H Q => ∃ G s, SA K G s σ H ∧ Out K cl W G s σ H (f s) fun b _ _ H' => Q b H'
def RRels (H0 G : Hp) (s : DSt) (σ : L2.St) (H : Hp) : List V → List R → Prop := Paired fun v r => RRel K H0 G s σ H v r
def tA (f : M (List R)) : TA := fun σ H Q => ∃ G s, SA K G s σ H ∧ Out K cl W G s σ H (f s) fun rs G' s' H' => ∀ vs, RRels K H G' s' σ H' vs rs → Q vs H'
def FOut (G : Hp) (s : DSt) (σ : L2.St) (H : Hp) (fl : Flow) (D : Ends) : Prop := match fl with
  | .next s' => ∀ G' σ' H', Stp G s σ H G' s' σ' H' → SA K G' s' σ' H' → D.nx σ' H'
  | .brk s' => ∀ G' σ' H', Stp G s σ H G' s' σ' H' → SA K G' s' σ' H' → D.bk σ' H'
  | .cnt s' => ∀ G' σ' H', Stp G s σ H G' s' σ' H' → SA K G' s' σ' H' → D.ct σ' H'
  | .ret r s' => ∀ v G' σ' H', Stp G s σ H G' s' σ' H' → SA K G' s' σ' H' → RRel K H G' s' σ' H' v r → D.rt v H'
  | .err x s' => ∀ cls d G' σ' H', Stp G s σ H G' s' σ' H' → SA K G' s' σ' H' → XRel K cl x cls d G' → W cls d σ' H'
  | .stuck => False
def tS (f : DSt → Flow) : TS := fun D σ H => ∃ G s, SA K G s σ H ∧ FOut K cl W G s σ H (f s) D
end
section
variable {K : PySem.W.Frag} {cl : String → Addr} {W : WX} {G H : Hp} {s : DSt} {σ : L2.St}
theorem out_mono {α : Type} {r : Res α} {k k' : α → Hp → DSt → Hp → Prop} (h : Out K cl W G s σ H r k) (i : ∀ a G' s' H', Stp G s σ H G' s' σ H' → SA K G' s' σ H' → k a G' s' H' → k' a G' s' H') : Out K cl W G s σ H r k' := by
  cases r with
  | ok a s' => exact fun G' H' st sa => i a G' s' H' st sa (h G' H' st sa)
  | err x s' => exact h
  | stuck => exact h
theorem out_bind {α β : Type} {r : Res α} {g : α → M β} {k : β → Hp → DSt → Hp → Prop} (h : Out K cl W G s σ H (r.bind g) k) :
    Out K cl W G s σ H r fun a G1 s1 H1 => Out K cl W G1 s1 σ H1 (g a s1) fun b G2 s2 H2 => k b G2 s2 H2 := by
  cases r with
  | ok a s' =>
    intro G1 H1 st sa
    have h : Out K cl W G s σ H (g a s') k := h
    cases e : g a s' with
    | ok b s2 => rw [e] at h; exact fun G2 H2 st2 sa2 => h G2 H2 (st.trans st2) sa2
    | err x s2 => rw [e] at h; exact fun c d G2 H2 st2 sa2 xr => h c d G2 H2 (st.trans st2) sa2 xr
    | stuck => rw [e] at h; exact h
  | err x s' => exact h
  | stuck => exact h
theorem out_less {f : Res R} {H0 : Hp} {Q : VK} (dm : ∀ a, H0 a ≠ none → H a ≠ none) (h : Out K cl W G s σ H f fun r G' s' H' => ∀ v, RRel K H0 G' s' σ H' v r → Q v H') :
    Out K cl W G s σ H f fun r G' s' H' => ∀ v, RRel K H G' s' σ H' v r → Q v H' := out_mono h fun _ _ _ _ _ _ k v q => k v (q.less dm)
end
section
variable {X : Cx} {cl : String → Addr} {W : WX}
theorem pe_imp {e : Expr} {t t' : TE} (h : PE X e t) (i : ∀ σ H Q, t' σ H Q → t σ H Q) : PE X e t' := ⟨fun pins s σ H Q I q => h.run pins s σ H Q I (i σ H Q q)⟩
theorem pt_imp {e : Expr} {t t' : TT} (h : PT X e t) (i : ∀ σ H Q, t' σ H Q → t σ H Q) : PT X e t' := ⟨fun pins s σ H Q I q => h.run pins s σ H Q I (i σ H Q q)⟩
theorem pw_imp {e : Expr} {t t' : TT} (h : PW X e t) (i : ∀ σ H Q, t' σ H Q → t σ H Q) : PW X e t' := ⟨fun wh pins s σ H Q I q => h.run wh pins s σ H Q I (i σ H Q q)⟩
theorem pa_imp {es : List Expr} {t t' : TA} (h : PA X es t) (i : ∀ σ H Q, t' σ H Q → t σ H Q) : PA X es t' := ⟨fun pos pins s σ H Q I q => h.run pos pins s σ H Q I (i σ H Q q)⟩
theorem ps_imp {st : Stmt} {t t' : TS} (h : PS X st t) (i : ∀ D σ H, t' D σ H → t D σ H) : PS X st t' := ⟨fun pins s σ H D I q => h.run pins s σ H D I (i D σ H q)⟩
theorem pss_imp {st : List Stmt} {t t' : TS} (h : PSs X st t) (i : ∀ D σ H, t' D σ H → t D σ H) : PSs X st t' := ⟨fun pins s σ H D I q => h.run pins s σ H D I (i D σ H q)⟩
abbrev DE (X : Cx) (cl : String → Addr) (W : WX) (e : Expr) (f : M R) : Prop := PE X e (tD X.K cl W f)
abbrev DT (X : Cx) (cl : String → Addr) (W : WX) (e : Expr) (f : M Bool) : Prop := PT X e (tT X.K cl W f)
abbrev DW (X : Cx) (cl : String → Addr) (W : WX) (e : Expr) (f : M Bool) : Prop := PW X e (tT X.K cl W f)
abbrev DA (X : Cx) (cl : String → Addr) (W : WX) (es : List Expr) (f : M (List R)) : Prop := PA X es (tA X.K cl W f)
abbrev DS (X : Cx) (cl : String → Addr) (W : WX) (st : Stmt) (f : DSt → Flow) : Prop := PS X st (tS X.K cl W f)
abbrev DSs (X : Cx) (cl : String → Addr) (W : WX) (st : List Stmt) (f : DSt → Flow) : Prop := PSs X st (tS X.K cl W f)

/-! ### names, constants -/
def fVar (i : Nat) : M R := fun s => match s.d[i]? with
  | some (.val d) => .ok (.val d) s
  | some (.raw v) => .ok (.raw v) s
  | some (.ob o) => .ok (.ob o) s
  | some (.own _) => .ok (.slot i) s
  | _ => .stuck
theorem d_var (i : Nat) {x : Str} {pos : Pos} (hN : X.N[i]? = some x := by rfl) (hv : Vis X.env.scope x := by first | exact Or.inl rfl | exact Or.inr (Or.inl rfl) | exact Or.inr (Or.inr rfl)) (hd : (x == ("__debug__" : Str)) = false := by decide)
    (hcd : (x == ("__classdict__" : Str)) = false := by decide) : DE X cl W (.Name x pos) (fVar i) := by
  refine pe_imp (pe_var hN hv hd hcd) fun σ H Q ⟨G, s, S, h⟩ => ?_
  unfold fVar at h
  split at h
  · rename_i d q
    obtain ⟨v, e, hd⟩ := S.slot i _ q
    have e' : σ[i]? = some (some v) := by
      cases z : σ[i]? with
      | none => rw [z] at e; cases e
      | some o => rw [z] at e; simp at e; rw [e]
    exact ⟨v, e', h G H Stp.refl S v hd⟩
  · rename_i u q
    have e : σ[i]?.join = some u := S.slot i _ q
    have e' : σ[i]? = some (some u) := by
      cases z : σ[i]? with
      | none => rw [z] at e; cases e
      | some o => rw [z] at e; simp at e; rw [e]
    exact ⟨u, e', h G H Stp.refl S u rfl⟩
  · rename_i o q
    obtain ⟨v, e, hd⟩ := S.slot i _ q
    have e' : σ[i]? = some (some v) := by
      cases z : σ[i]? with
      | none => rw [z] at e; cases e
      | some o => rw [z] at e; simp at e; rw [e]
    exact ⟨v, e', h G H Stp.refl S v hd⟩
  · rename_i ds q
    obtain ⟨a, xs, e, ha, hd⟩ := S.slot i _ q
    have e' : σ[i]? = some (some (.ref a)) := by
      cases z : σ[i]? with
      | none => rw [z] at e; cases e
      | some o => rw [z] at e; simp at e; rw [e]
    exact ⟨_, e', h G H Stp.refl S _ e'⟩
  · exact h.elim
def fC (d : PyData) : M R := ret (.val d)
theorem d_c {e : Expr} {d : PyData} {v : V} (hd : ∀ G, Rp X.K G v d) (h : PE X e (tC v)) : DE X cl W e (fC d) :=
  pe_imp h fun σ H Q ⟨G, s, S, q⟩ => q G H Stp.refl S v (hd G)
theorem d_int {i j pos} : DE X cl W (.Constant (.int i) j pos) (fC (.int i)) := d_c (fun _ => .int i) pe_int
theorem d_bl {b j pos} : DE X cl W (.Constant (.bool b) j pos) (fC (.bool b)) := d_c (fun _ => .bl b) pe_bl
theorem d_non {j pos} : DE X cl W (.Constant .none j pos) (fC .none) := d_c (fun _ => .non) pe_non
theorem d_str {x j pos} : DE X cl W (.Constant (.str x) j pos) (fC (.str x)) := d_c (fun _ => .str x) pe_str
theorem d_globI {x : Str} {i : Int} {t : Tok} {pos : Pos} (hg : Gl X x) (hm : X.mg x = some (.int i t)) (hd : (x == ("__debug__" : Str)) = false := by decide) : DE X cl W (.Name x pos) (fC (.int i)) := d_c (fun _ => .int i) (pe_glob (v := .int i) hg hm ⟨t, rfl⟩ hd)
def fRaw (v : V) : M R := ret (.raw v)
/-! ### operators -/
def OpS (K : PySem.W.Frag) (rl : R2) (o : R → R → M R) : Prop := ∀ (cl : String → Addr) (W : WX) (G : Hp) (s : DSt) (σ : L2.St) (H H0 : Hp) (v1 v2 : V) (r1 r2 : R) (Q : VK), SA K G s σ H → RRel K H0 G s σ H v1 r1 → RRel K H0 G s σ H v2 r2 →
  (Out K cl W G s σ H (o r1 r2 s) fun r G' s' H' => ∀ v, RRel K H G' s' σ H' v r → Q v H') → rl v1 v2 H Q
def fOp (o : R → R → M R) (f g : M R) : M R := bnd f fun x => bnd g fun y => o x y
theorem d_op2 {e : Expr} {a b : Expr} {f g : M R} {rl : R2} {o : R → R → M R} (h : ∀ {ta tb : TE}, PE X a ta → PE X b tb → PE X e (tOp rl ta tb)) (ho : OpS X.K rl o) (ha : DE X cl W a f) (hb : DE X cl W b g) : DE X cl W e (fOp o f g) := by
  refine pe_imp (h ha hb) fun σ H Q ⟨G, s, S, q⟩ => ?_
  refine ⟨G, s, S, out_mono (out_bind q) fun x G1 s1 H1 st1 S1 q1 v1 r1 => ⟨G1, s1, S1, ?_⟩⟩
  refine out_mono (out_bind q1) fun y G2 s2 H2 st2 S2 q2 v2 r2 => ?_
  refine ho cl W G2 s2 σ H2 H v1 v2 x y Q S2 (r1.mono st2) (r2.less st1.dom) (out_less (st1.trans st2).dom q2)
theorem OpR.or' {f : Value → Value → Sem Value} {r r' : R2} (h : OpR X f r) (h' : OpR X f r') : OpR X f (fun x y H Q => r x y H Q ∨ r' x y H Q) := by
  intro pins s σ H x y v u Q I rx ry q
  rcases q with q | q
  · exact h pins s σ H x y v u Q I rx ry q
  · exact h' pins s σ H x y v u Q I rx ry q
theorem SA.ownH {K : PySem.W.Frag} {G H : Hp} {s : DSt} {σ : L2.St} {a : Addr} (S : SA K G s σ H) (z : Own s σ a) : ∃ xs, H a = some (.lst xs) := by
  rcases z with ⟨i, ⟨es, e⟩, e2⟩ | z
  · obtain ⟨b, xs, e3, ha, _⟩ := S.slot i _ e
    rw [e2] at e3
    cases e3
    exact ⟨xs, ha⟩
  · have q := S.pw
    unfold POwn at z
    unfold PwOk at q
    split at z
    · exact z.elim
    · rename_i pa ca cells t e
      rw [e] at q
      dsimp only at q
      rcases z with rfl | rfl
      · exact ⟨_, q.2.1⟩
      · exact ⟨_, q.2.2.1⟩
theorem new_list {K : PySem.W.Frag} {G H H0 : Hp} {s : DSt} {σ : L2.St} {p : Addr} {vs : List V} {ds : List PyData} (S : SA K G s σ H) (hp : H p = none) (hd : RpAll K G vs ds) (dm : ∀ a, H0 a ≠ none → H a ≠ none) :
    Stp G s σ H G s σ (upd H p (.lst vs)) ∧ SA K G s σ (upd H p (.lst vs)) ∧ RRel K H0 G s σ (upd H p (.lst vs)) (.ref p) (.new ds) := by
  have ne : ∀ a o, H a = some o → a ≠ p := fun a o h => ne_of_none h hp
  have up : ∀ a o, H a = some o → upd H p (.lst vs) a = some o := fun a o h => by rw [upd_ne (ne a o h)]; exact h
  have gp : G p = none := Evl.fresh_back S.gh hp
  refine ⟨⟨Ex.refl G, fun a o h _ => ⟨up a o h, rfl⟩, fun a z => .inl z, fun a h => ?_, fun _ h => h⟩, ⟨S.len, S.gh.trans fun a o h => up a o h, fun i sl h => ?_, S.inj, S.ownG, ?_, S.pne⟩, ⟨p, vs, rfl, upd_same, hd, gp, ?_, ?_⟩⟩
  · obtain ⟨o, e⟩ := Option.ne_none_iff_exists'.mp h
    rw [up a o e]; simp
  · have q := S.slot i sl h
    cases sl with
    | no => trivial
    | val d => exact q
    | raw v => exact q
    | ob o => exact q
    | own es => obtain ⟨a, xs, e, ha, hh⟩ := q; exact ⟨a, xs, e, up a _ ha, hh⟩
  · have q := S.pw
    unfold PwOk at q ⊢
    split
    · trivial
    · rename_i pa ca cells t e
      rw [e] at q
      exact ⟨q.1, up _ _ q.2.1, up _ _ q.2.2.1, q.2.2.2⟩
  · exact Classical.byContradiction fun q => dm p q hp
  · intro z
    obtain ⟨xs, e⟩ := S.ownH z
    rw [hp] at e; cases e
theorem new_known {K : PySem.W.Frag} {G H : Hp} {s : DSt} {σ : L2.St} {p : Addr} (o : HO) (S : SA K G s σ H) (hp : H p = none) :
    Stp G s σ H (upd G p o) s σ (upd H p o) ∧ SA K (upd G p o) s σ (upd H p o) := by
  have up : ∀ a u, H a = some u → upd H p o a = some u := fun a u h => by rw [upd_ne (ne_of_none h hp)]; exact h
  have gp : G p = none := Evl.fresh_back S.gh hp
  have ug : Ex G (upd G p o) := Ex.new gp
  have nown : ∀ a, Own s σ a → a ≠ p := by
    rintro a z rfl
    obtain ⟨xs, e⟩ := S.ownH z
    rw [hp] at e; cases e
  refine ⟨⟨ug, fun a u h _ => ⟨up a u h, by rw [upd_ne (ne_of_none h hp)]⟩, fun a z => .inl z, fun a h => ?_, fun _ h => h⟩, ⟨S.len, fun a u h => ?_, fun i sl h => ?_, S.inj, fun i a z => ?_, ?_, S.pne⟩⟩
  · obtain ⟨u, e⟩ := Option.ne_none_iff_exists'.mp h
    rw [up a u e]; simp
  · by_cases e : a = p
    · subst e; rw [upd_same] at h ⊢; exact h
    · rw [upd_ne e] at h ⊢; exact S.gh a u h
  · have q := S.slot i sl h
    cases sl with
    | no => trivial
    | val d => obtain ⟨v, e, hd⟩ := q; exact ⟨v, e, dp_mono ug _ _ hd⟩
    | raw v => exact q
    | ob o => obtain ⟨v, e, hd⟩ := q; exact ⟨v, e, ob_mono ug hd⟩
    | own es => obtain ⟨a, xs, e, ha, hh⟩ := q; exact ⟨a, xs, e, up a _ ha, dps_mono ug _ _ hh⟩
  · rw [upd_ne (nown a (.inl ⟨i, z⟩))]; exact S.ownG i a z
  · have q := S.pw
    unfold PwOk at q ⊢
    split
    · trivial
    · rename_i pa ca cells t e
      rw [e] at q
      have n1 : pa ≠ p := nown pa (.inr (by rw [e]; exact .inl rfl))
      have n2 : ca ≠ p := nown ca (.inr (by rw [e]; exact .inr rfl))
      exact ⟨q.1, up _ _ q.2.1, up _ _ q.2.2.1, by rw [upd_ne n1]; exact q.2.2.2.1, by rw [upd_ne n2]; exact q.2.2.2.2⟩
end
end DL

/-! DL3: operators on data -/
noncomputable section
namespace DL
open PySem L2 PyProof.Rows
open Evl (Ex)

def Dq (K : PySem.W.Frag) (G H : Hp) (v : V) (d : PyData) : Prop := match d with
  | .list ds => ∃ a xs, v = .ref a ∧ H a = some (.lst xs) ∧ RpAll K G xs ds
  | d => Rp K G v d
theorem Dq.of {K : PySem.W.Frag} {G H : Hp} {v : V} : ∀ {d : PyData}, Ex G H → Rp K G v d → Dq K G H v d
  | .list ds, e, h => by cases h with | lst hs ha => exact ⟨_, _, rfl, e _ _ hs, ha⟩
  | .none, _, h | .bool _, _, h | .int _, _, h | .str _, _, h | .tuple _, _, h | .dict _, _, h => h
theorem Dq.rp {K : PySem.W.Frag} {G H : Hp} {v : V} : ∀ {d : PyData}, Ex G H → Dq K G H v d → Rp K H v d
  | .list ds, e, h => by obtain ⟨a, xs, rfl, ha, hd⟩ := h; exact .lst ha (dps_mono e _ _ hd)
  | .none, e, h | .bool _, e, h | .int _, e, h | .str _, e, h | .tuple _, e, h | .dict _, e, h => dp_mono e _ _ h
theorem look_q {K : PySem.W.Frag} {H0 G H : Hp} {s : DSt} {σ : L2.St} {v : V} {r : R} {d : PyData} (S : SA K G s σ H) (h : RRel K H0 G s σ H v r) (e : look r s = some d) : Dq K G H v d := by
  cases r with
  | val d' => cases e; exact .of S.gh h
  | raw u => cases e
  | ob o => cases e
  | new ds =>
    cases e
    obtain ⟨a, xs, rfl, ha, hd, _⟩ := h
    exact ⟨a, xs, rfl, ha, hd⟩
  | slot i =>
    simp only [look] at e
    have h' : σ[i]? = some (some v) := h
    split at e
    · rename_i ds q
      cases e
      obtain ⟨a, xs, e1, ha, hd⟩ := S.slot i _ q
      rw [h'] at e1
      cases e1
      exact ⟨a, xs, rfl, ha, hd⟩
    · rename_i d' q
      cases e
      obtain ⟨u, e1, hd⟩ := S.slot i _ q
      rw [h'] at e1
      cases e1
      exact .of S.gh hd
    · cases e
theorem dq_int {K : PySem.W.Frag} {G H : Hp} {v : V} {i : Int} (h : Dq K G H v (.int i)) : v = .int i := by cases (show Rp K G v (.int i) from h); rfl
theorem dq_bl {K : PySem.W.Frag} {G H : Hp} {v : V} {i : Bool} (h : Dq K G H v (.bool i)) : v = .bl i := by cases (show Rp K G v (.bool i) from h); rfl
theorem dq_str {K : PySem.W.Frag} {G H : Hp} {v : V} {i : Str} (h : Dq K G H v (.str i)) : v = .str i := by cases (show Rp K G v (.str i) from h); rfl
theorem dq_lst {K : PySem.W.Frag} {G H : Hp} {v : V} {ds : List PyData} (h : Dq K G H v (.list ds)) : ∃ a xs, v = .ref a ∧ H a = some (.lst xs) ∧ RpAll K G xs ds := h
theorem dq_tup {K : PySem.W.Frag} {G H : Hp} {v : V} {ds : List PyData} (x : Ex G H) (h : Dq K G H v (.tuple ds)) : ∃ a xs, v = .ref a ∧ SqT K H a xs ∧ RpAll K G xs ds ∧ Rp K G v (.tuple ds) := by
  have h' : Rp K G v (.tuple ds) := h
  cases id h' with
  | tup hs ha => exact ⟨_, _, rfl, .of (x _ _ hs), ha, h'⟩
def Ans (K : PySem.W.Frag) (G H : Hp) (r : R) (Q : VK) : Prop := match r with
  | .val d => (∀ v, Rp K G v d → Q v H) ∧ ∀ ds p vs, d = .tuple ds → H p = none → RpAll K G vs ds → Q (.ref p) (upd H p (.tup vs))
  | .new ds => ∀ p vs, H p = none → RpAll K G vs ds → Q (.ref p) (upd H p (.lst vs))
  | .raw v => Q v H
  | .ob o => (∀ v, ObRel K G v o → Q v H) ∧ (∀ kvs p vs, o = .dict kvs → H p = none → KRp K G vs kvs → Q (.ref p) (upd H p (.dK vs))) ∧ ∀ S n p, o = .set S n → H p = none → Q (.ref p) (upd H p (.set S n))
  | .slot _ => False
theorem ans_of {K : PySem.W.Frag} {cl : String → Addr} {W : WX} {G H H0 : Hp} {s : DSt} {σ : L2.St} {r : R} {Q : VK} (S : SA K G s σ H) (dm : ∀ a, H0 a ≠ none → H a ≠ none) (hr : ∀ i, r ≠ .slot i)
    (h : Out K cl W G s σ H (.ok r s) fun r G' s' H' => ∀ v, RRel K H0 G' s' σ H' v r → Q v H') : Ans K G H r Q := by
  cases r with
  | val d =>
    refine ⟨fun v q => h G H Stp.refl S v q, fun ds p vs e hp hd => ?_⟩
    subst e
    obtain ⟨st, sa⟩ := new_known (.tup vs) S hp
    refine h _ _ st sa _ ?_
    exact .tup upd_same (dps_mono st.ex _ _ hd)
  | new ds =>
    intro p vs hp hd
    obtain ⟨st, sa, rr⟩ := new_list S hp hd dm
    exact h _ _ st sa _ rr
  | raw v => exact h G H Stp.refl S v rfl
  | ob o =>
    refine ⟨fun v q => h G H Stp.refl S v q, fun kvs p vs e hp hd => ?_, fun S' n p e hp => ?_⟩
    · subst e
      obtain ⟨st, sa⟩ := new_known (.dK vs) S hp
      exact h _ _ st sa _ ⟨p, vs, rfl, upd_same, krp_mono st.ex hd⟩
    · subst e
      obtain ⟨st, sa⟩ := new_known (.set S' n) S hp
      exact h _ _ st sa _ ⟨p, rfl, upd_same⟩
  | slot i => exact (hr i rfl).elim
def lift1 (o : PyData → Option R) : R → M R := fun x s => match look x s with
  | some d => match o d with
    | some (.slot _) => .stuck
    | some r => .ok r s
    | none => .stuck
  | none => .stuck
def lift2 (o : PyData → PyData → Option R) : R → R → M R := fun x y s => match look x s, look y s with
  | some d, some e => match o d e with
    | some (.slot _) => .stuck
    | some r => .ok r s
    | none => .stuck
  | _, _ => .stuck
def OpD (K : PySem.W.Frag) (rl : R2) (o : PyData → PyData → Option R) : Prop := ∀ (G H : Hp) (x y : V) (d e : PyData) (r : R) (Q : VK), Ex G H → Dq K G H x d → Dq K G H y e → o d e = some r → Ans K G H r Q → rl x y H Q
theorem ops_lift {K : PySem.W.Frag} {rl : R2} {o : PyData → PyData → Option R} (h : OpD K rl o) : OpS K rl (lift2 o) := by
  intro cl W G s σ H H0 v1 v2 r1 r2 Q S q1 q2 k
  unfold lift2 at k
  split at k
  · rename_i d e e1 e2
    split at k
    · exact k.elim
    · rename_i r ns ho
      exact h G H v1 v2 d e r Q S.gh (look_q S q1 e1) (look_q S q2 e2) ho (ans_of S (fun a z => z) (fun i z => ns i z) k)
    · exact k.elim
  · exact k.elim

/-! ### sums, products .. -/
def addO : PyData → PyData → Option R
  | .int i, .int j => some (.val (.int (i + j)))
  | .list a, .list b => if leS (a.length + b.length) then some (.new (a ++ b)) else none
  | .str a, .str b => if leS (a.length + b.length) then some (.val (.str (a ++ b))) else none
  | .tuple a, .tuple b => if leS (a.length + b.length) then some (.val (.tuple (a ++ b))) else none
  | _, _ => none
def rAddA (K : PySem.W.Frag) : R2 := fun x y H Q => rI0 (fun i j => .int (i + j)) x y H Q ∨ (rCat x y H Q ∨ ((∃ i j, x = .str i ∧ y = .str j ∧ i.length + j.length ≤ sizeLine ∧ Q (.str (i ++ j)) H) ∨ rCatA K x y H Q))
theorem opd_add {K : PySem.W.Frag} : OpD K (rAddA K) addO := by
  intro G H x y d e r Q ex hx hy ho k
  unfold addO at ho
  split at ho
  · cases ho
    obtain rfl := dq_int hx
    obtain rfl := dq_int hy
    exact .inl ⟨_, _, rfl, rfl, k.1 _ (.int _)⟩
  · split at ho
    · cases ho
      rename_i a b hl
      obtain ⟨p, xs, rfl, hp, hpx⟩ := dq_lst hx
      obtain ⟨q, ys, rfl, hq, hqx⟩ := dq_lst hy
      exact .inr (.inl ⟨p, q, xs, ys, rfl, rfl, hp, hq, by rw [dps_len hpx, dps_len hqx]; exact hl, fun l hl => k l _ hl (dps_app hpx hqx)⟩)
    · cases ho
  · split at ho
    · cases ho
      obtain rfl := dq_str hx
      obtain rfl := dq_str hy
      exact .inr (.inr (.inl ⟨_, _, rfl, rfl, by assumption, k.1 _ (.str _)⟩))
    · cases ho
  · split at ho
    · cases ho
      rename_i a b hl
      obtain ⟨p, xs, rfl, hp, hpx, h1⟩ := dq_tup ex hx
      obtain ⟨q, ys, rfl, hq, hqx, h2⟩ := dq_tup ex hy
      refine .inr (.inr (.inr ⟨p, q, xs, ys, rfl, rfl, hp, hq, by rw [dps_len hpx, dps_len hqx]; exact hl, fun z => ?_, fun _ z => ?_, fun _ _ l hl => k.2 _ l _ rfl hl (dps_app hpx hqx)⟩))
      · subst z
        cases hpx
        exact k.1 _ h2
      · subst z
        cases hqx
        simp only [List.append_nil] at k
        exact k.1 _ h1
    · cases ho
  · cases ho
def subO : PyData → PyData → Option R
  | .int i, .int j => some (.val (.int (i - j)))
  | _, _ => none
theorem opd_sub {K : PySem.W.Frag} : OpD K (rI0 fun i j => .int (i - j)) subO := by
  intro G H x y d e r Q ex hx hy ho k
  unfold subO at ho
  split at ho
  · cases ho
    obtain rfl := dq_int hx
    obtain rfl := dq_int hy
    exact ⟨_, _, rfl, rfl, k.1 _ (.int _)⟩
  · cases ho
def mulO : PyData → PyData → Option R
  | .int i, .int j => if lgM i j then some (.val (.int (i * j))) else none
  | .list a, .int k => if inW k ∧ leS (a.length * k.toNat) then some (.new (List.replicate k.toNat a).flatten) else none
  | _, _ => none
theorem dps_rep {K : PySem.W.Frag} {H : Hp} {ds : List PyData} {vs : List V} (h : RpAll K H vs ds) : ∀ n, RpAll K H (List.replicate n vs).flatten (List.replicate n ds).flatten
  | 0 => .nil
  | n + 1 => by
    rw [List.replicate_succ, List.replicate_succ, List.flatten_cons, List.flatten_cons]
    exact dps_app h (dps_rep h n)
def rMulA : R2 := fun x y H Q => rI CMulW (fun i j => .int (i * j)) x y H Q ∨ rRep x y H Q
theorem opd_mul {K : PySem.W.Frag} : OpD K rMulA mulO := by
  intro G H x y d e r Q ex hx hy ho k
  unfold mulO at ho
  split at ho
  · split at ho
    · cases ho
      obtain rfl := dq_int hx
      obtain rfl := dq_int hy
      exact .inl ⟨_, _, rfl, rfl, by assumption, k.1 _ (.int _)⟩
    · cases ho
  · split at ho
    · cases ho
      rename_i a n hl
      obtain ⟨p, xs, rfl, hp, hpx⟩ := dq_lst hx
      obtain rfl := dq_int hy
      exact .inr ⟨p, n, xs, rfl, rfl, hp, hl.1.1, hl.1.2, by rw [dps_len hpx]; exact hl.2, fun l hl => k l _ hl (dps_rep hpx _)⟩
    · cases ho
  · cases ho
def fdivO : PyData → PyData → Option R
  | .int i, .int j => if 0 < j ∧ lgD j then some (.val (.int (i / j))) else none
  | _, _ => none
theorem opd_fdiv {K : PySem.W.Frag} : OpD K (rI CDivW fun i j => .int (i / j)) fdivO := by
  intro G H x y d e r Q ex hx hy ho k
  unfold fdivO at ho
  split at ho
  · split at ho
    · cases ho
      obtain rfl := dq_int hx
      obtain rfl := dq_int hy
      exact ⟨_, _, rfl, rfl, by assumption, k.1 _ (.int _)⟩
    · cases ho
  · cases ho
def modO : PyData → PyData → Option R
  | .int i, .int j => if 0 < j then some (.val (.int (i % j))) else none
  | _, _ => none
theorem opd_mod {K : PySem.W.Frag} : OpD K (rI (fun _ j => 0 < j) fun i j => .int (i % j)) modO := by
  intro G H x y d e r Q ex hx hy ho k
  unfold modO at ho
  split at ho
  · split at ho
    · cases ho
      obtain rfl := dq_int hx
      obtain rfl := dq_int hy
      exact ⟨_, _, rfl, rfl, by assumption, k.1 _ (.int _)⟩
    · cases ho
  · cases ho
def powO : PyData → PyData → Option R
  | .int i, .int j => if 0 ≤ j ∧ leP j ∧ lgP i then some (.val (.int (i ^ j.toNat))) else none
  | _, _ => none
def CPowW (i j : Int) : Prop := 0 ≤ j ∧ j ≤ 30000 ∧ i.natAbs.log2 < 4000
theorem bits_log (i : Int) : Builtin.Int.intBits i ≤ i.natAbs.log2 + 1 := by
  unfold Builtin.Int.intBits
  split <;> omega
theorem op_powW {X : Cx} : OpR X (binaryOp .Pow) (rI CPowW fun i j => .int (i ^ j.toNat)) := by
  intro pins s σ H x y v u Q I r1 r2 h
  obtain ⟨i, j, rfl, rfl, hc, q⟩ := h
  obtain ⟨t, rfl⟩ := r1
  obtain ⟨t', rfl⟩ := r2
  refine pow_int hc.1 ?_ ⟨.int _, H, I.tok _, ⟨_, rfl⟩, q⟩
  have h1 := bits_log i
  have h2 : (Builtin.Int.intBits i : Int) ≤ 4000 := by have := hc.2.2; omega
  have h3 : (Builtin.Int.intBits i : Int) * j ≤ 4000 * 30000 := Int.mul_le_mul h2 hc.2.1 hc.1 (by decide)
  have : (4000 * 30000 : Int) ≤ 2 ^ 27 := by decide
  omega
theorem opd_pow {K : PySem.W.Frag} : OpD K (rI CPowW fun i j => .int (i ^ j.toNat)) powO := by
  intro G H x y d e r Q ex hx hy ho k
  unfold powO at ho
  split at ho
  · split at ho
    · cases ho
      obtain rfl := dq_int hx
      obtain rfl := dq_int hy
      exact ⟨_, _, rfl, rfl, by assumption, k.1 _ (.int _)⟩
    · cases ho
  · cases ho

/-! ### comparisons -/
def ltO : PyData → PyData → Option R
  | .int i, .int j => some (.val (.bool (decide (i < j))))
  | _, _ => none
def leO : PyData → PyData → Option R
  | .int i, .int j => some (.val (.bool (decide (i ≤ j))))
  | _, _ => none
def gtO : PyData → PyData → Option R
  | .int i, .int j => some (.val (.bool (decide (j < i))))
  | _, _ => none
def geO : PyData → PyData → Option R
  | .int i, .int j => some (.val (.bool (decide (j ≤ i))))
  | _, _ => none
theorem opd_cmpI {K : PySem.W.Frag} {p : Int → Int → Bool} {o : PyData → PyData → Option R} (h1 : ∀ i j, o (.int i) (.int j) = some (.val (.bool (p i j)))) (h2 : ∀ d e r, o d e = some r → ∃ i j, d = .int i ∧ e = .int j) :
    OpD K (rI0 fun i j => .bl (p i j)) o := by
  intro G H x y d e r Q ex hx hy ho k
  obtain ⟨i, j, rfl, rfl⟩ := h2 d e r ho
  rw [h1] at ho
  cases ho
  obtain rfl := dq_int hx
  obtain rfl := dq_int hy
  exact ⟨_, _, rfl, rfl, k.1 _ (.bl _)⟩
theorem opd_lt {K : PySem.W.Frag} : OpD K (rI0 fun i j => .bl (decide (i < j))) ltO := opd_cmpI (fun _ _ => rfl) fun d e r h => by unfold ltO at h; split at h <;> simp_all
theorem opd_le {K : PySem.W.Frag} : OpD K (rI0 fun i j => .bl (decide (i ≤ j))) leO := opd_cmpI (fun _ _ => rfl) fun d e r h => by unfold leO at h; split at h <;> simp_all
theorem opd_gt {K : PySem.W.Frag} : OpD K (rI0 fun i j => .bl (decide (j < i))) gtO := opd_cmpI (fun _ _ => rfl) fun d e r h => by unfold gtO at h; split at h <;> simp_all
theorem opd_ge {K : PySem.W.Frag} : OpD K (rI0 fun i j => .bl (decide (j ≤ i))) geO := opd_cmpI (fun _ _ => rfl) fun d e r h => by unfold geO at h; split at h <;> simp_all
def rEqP (K : PySem.W.Frag) (neg : Bool) : R2 := fun x y H Q => ∃ d e, Dp K H x d ∧ Dp K H y e ∧ d.plain = true ∧ e.plain = true ∧ min d.depth e.depth ≤ 60 ∧ Q (.bl (if neg then !PyData.eqv d e else PyData.eqv d e)) H
section
variable {X : Cx}
theorem op_eqP (hu : X.A.units + 64 < cLine) : OpR X (compareOp .Eq) (rEqP X.K false) := by
  intro pins s σ H x y v u Q I rx ry h
  obtain ⟨d, e, hd, he, sd, se, dm, q⟩ := h
  obtain ⟨as, r1⟩ := Dp.reads I d x v hd rx
  obtain ⟨bs, r2⟩ := Dp.reads I e y u he ry
  exact SeqAt.eq_plain r1 r2 sd se (by omega) ⟨.bl _, H, I, rfl, q⟩
theorem op_neP (hu : X.A.units + 64 < cLine) : OpR X (compareOp .NotEq) (rEqP X.K true) := by
  intro pins s σ H x y v u Q I rx ry h
  obtain ⟨d, e, hd, he, sd, se, dm, q⟩ := h
  obtain ⟨as, r1⟩ := Dp.reads I d x v hd rx
  obtain ⟨bs, r2⟩ := Dp.reads I e y u he ry
  exact SeqAt.ne_plain r1 r2 sd se (by omega) ⟨.bl _, H, I, rfl, q⟩
end
def eqO (d e : PyData) : Option R := if min d.depth e.depth ≤ 60 then some (.val (.bool (PyData.eqv d e))) else none
def neO (d e : PyData) : Option R := if min d.depth e.depth ≤ 60 then some (.val (.bool (!PyData.eqv d e))) else none
theorem opd_eq {K : PySem.W.Frag} : OpD K (rEqP K false) eqO := by
  intro G H x y d e r Q ex hx hy ho k
  unfold eqO at ho
  split at ho
  · cases ho
    have h1 := hx.rp ex
    have h2 := hy.rp ex
    exact ⟨d, e, rp_dp _ _ h1, rp_dp _ _ h2, rp_plain _ _ h1, rp_plain _ _ h2, by assumption, k.1 _ (.bl _)⟩
  · cases ho
theorem opd_ne {K : PySem.W.Frag} : OpD K (rEqP K true) neO := by
  intro G H x y d e r Q ex hx hy ho k
  unfold neO at ho
  split at ho
  · cases ho
    have h1 := hx.rp ex
    have h2 := hy.rp ex
    exact ⟨d, e, rp_dp _ _ h1, rp_dp _ _ h2, rp_plain _ _ h1, rp_plain _ _ h2, by assumption, k.1 _ (.bl _)⟩
  · cases ho
def rInP (K : PySem.W.Frag) (neg : Bool) : R2 := fun x y H Q => ∃ d ds, Dp K H x d ∧ (Dp K H y (.list ds) ∨ Dp K H y (.tuple ds)) ∧ d.plain = true ∧ PyData.plainAll ds = true ∧ min (PyData.depthAll ds) d.depth ≤ 60 ∧
  Q (.bl (if neg then !ds.any fun z => PyData.eqv z d else ds.any fun z => PyData.eqv z d)) H
section
variable {X : Cx}
theorem op_inP (hu : X.A.units + 64 < cLine) : OpR X (compareOp .In) (rInP X.K false) := by
  intro pins s σ H x y v u Q I rx ry h
  obtain ⟨d, ds, hd, he, sd, se, dm, q⟩ := h
  obtain ⟨as, r1⟩ := Dp.reads I d x v hd rx
  rcases he with he | he
  · obtain ⟨bs, r2⟩ := Dp.reads I _ y u he ry
    exact SeqAt.in_list_data r2 r1 se sd (by omega) ⟨.bl _, H, I, rfl, q⟩
  · obtain ⟨bs, r2⟩ := Dp.reads I _ y u he ry
    exact SeqAt.in_tuple_data r2 r1 se sd (by omega) ⟨.bl _, H, I, rfl, q⟩
theorem op_notInP (hu : X.A.units + 64 < cLine) : OpR X (compareOp .NotIn) (rInP X.K true) := by
  intro pins s σ H x y v u Q I rx ry h
  obtain ⟨d, ds, hd, he, sd, se, dm, q⟩ := h
  obtain ⟨as, r1⟩ := Dp.reads I d x v hd rx
  rcases he with he | he
  · obtain ⟨bs, r2⟩ := Dp.reads I _ y u he ry
    exact SeqAt.notIn_list_data r2 r1 se sd (by omega) ⟨.bl _, H, I, rfl, q⟩
  · obtain ⟨bs, r2⟩ := Dp.reads I _ y u he ry
    exact SeqAt.notIn_tuple_data r2 r1 se sd (by omega) ⟨.bl _, H, I, rfl, q⟩
end
def items : PyData → Option (List PyData)
  | .list ds => some ds
  | .tuple ds => some ds
  | _ => none
def inO (d e : PyData) : Option R := match items e with
  | some ds => if min (PyData.depthAll ds) d.depth ≤ 60 then some (.val (.bool (ds.any fun z => PyData.eqv z d))) else none
  | none => none
def notInO (d e : PyData) : Option R := match items e with
  | some ds => if min (PyData.depthAll ds) d.depth ≤ 60 then some (.val (.bool (!ds.any fun z => PyData.eqv z d))) else none
  | none => none
theorem items_dp {K : PySem.W.Frag} {H : Hp} {v : V} {e : PyData} {ds : List PyData} (h : Rp K H v e) (q : items e = some ds) : (Dp K H v (.list ds) ∨ Dp K H v (.tuple ds)) ∧ PyData.plainAll ds = true := by
  unfold items at q
  split at q
  · cases q
    refine ⟨.inl (rp_dp _ _ h), ?_⟩
    have := rp_plain _ _ h
    simpa [PyData.plain] using this
  · cases q
    refine ⟨.inr (rp_dp _ _ h), ?_⟩
    have := rp_plain _ _ h
    simpa [PyData.plain] using this
  · cases q
theorem opd_in {K : PySem.W.Frag} : OpD K (rInP K false) inO := by
  intro G H x y d e r Q ex hx hy ho k
  unfold inO at ho
  split at ho
  · rename_i ds hi
    split at ho
    · cases ho
      have h1 := hx.rp ex
      obtain ⟨h2, h3⟩ := items_dp (hy.rp ex) hi
      exact ⟨d, ds, rp_dp _ _ h1, h2, rp_plain _ _ h1, h3, by assumption, k.1 _ (.bl _)⟩
    · cases ho
  · cases ho
theorem opd_notIn {K : PySem.W.Frag} : OpD K (rInP K true) notInO := by
  intro G H x y d e r Q ex hx hy ho k
  unfold notInO at ho
  split at ho
  · rename_i ds hi
    split at ho
    · cases ho
      have h1 := hx.rp ex
      obtain ⟨h2, h3⟩ := items_dp (hy.rp ex) hi
      exact ⟨d, ds, rp_dp _ _ h1, h2, rp_plain _ _ h1, h3, by assumption, k.1 _ (.bl _)⟩
    · cases ho
  · cases ho
/-! ### places -/
def ixO : PyData → PyData → Option R
  | .list ds, .int i => (atI ds i).map .val
  | .tuple ds, .int i => (atI ds i).map .val
  | .str z, .int i => if leS (z.length) then (atI z.cps.toList i).map fun c => .val (.str ⟨#[c]⟩) else none
  | _, _ => none
theorem atI_rp {K : PySem.W.Frag} {G : Hp} {xs : List V} {ds : List PyData} {i : Int} {d : PyData} (h : RpAll K G xs ds) (e : atI ds i = some d) : ∃ v, atI xs i = some v ∧ Rp K G v d := by
  unfold atI at e ⊢
  rw [dps_len h]
  cases q : ixN ds.length i with
  | none => rw [q] at e; cases e
  | some j =>
    rw [q] at e
    have e : ds[j]? = some d := e
    have hj : j < xs.length := by rw [dps_len h]; exact (List.getElem?_eq_some_iff.mp e).1
    obtain ⟨d', e', r⟩ := dps_get h (List.getElem?_eq_getElem hj)
    rw [e] at e'
    cases e'
    exact ⟨xs[j], by simp [hj], r⟩
theorem opd_ix {K : PySem.W.Frag} : OpD K (rIx K) ixO := by
  intro G H x y d e r Q ex hx hy ho k
  unfold ixO at ho
  split at ho
  · rename_i ds i
    cases q : atI ds i with
    | none => rw [q] at ho; cases ho
    | some z =>
      rw [q] at ho
      cases ho
      obtain rfl := dq_int hy
      obtain ⟨p, xs, rfl, hp, hpx⟩ := dq_lst hx
      obtain ⟨v, e1, r1⟩ := atI_rp hpx q
      exact .inl ⟨p, xs, i, v, rfl, rfl, .of hp, e1, k.1 _ r1⟩
  · rename_i ds i
    cases q : atI ds i with
    | none => rw [q] at ho; cases ho
    | some z =>
      rw [q] at ho
      cases ho
      obtain rfl := dq_int hy
      obtain ⟨p, xs, rfl, hp, hpx, _⟩ := dq_tup ex hx
      obtain ⟨v, e1, r1⟩ := atI_rp hpx q
      exact .inr (.inl ⟨p, xs, i, v, rfl, rfl, hp, e1, k.1 _ r1⟩)
  · rename_i z i
    split at ho
    · cases q : atI z.cps.toList i with
      | none => rw [q] at ho; cases ho
      | some c =>
        rw [q] at ho
        cases ho
        obtain rfl := dq_int hy
        obtain rfl := dq_str hx
        exact .inr (.inr ⟨z, i, c, rfl, rfl, by assumption, q, k.1 _ (.str _)⟩)
    · cases ho
  · cases ho
section
variable {X : Cx} {cl : String → Addr} {W : WX} {a b : Expr} {f g : M R} {pos : Pos}
theorem d_add (ha : DE X cl W a f) (hb : DE X cl W b g) : DE X cl W (.BinOp a .Add b pos) (fOp (lift2 addO) f g) := d_op2 (pe_op (OpR.or' op_add (OpR.or' op_cat (OpR.or' op_add_str op_catA)))) (ops_lift opd_add) ha hb
theorem d_sub (ha : DE X cl W a f) (hb : DE X cl W b g) : DE X cl W (.BinOp a .Sub b pos) (fOp (lift2 subO) f g) := d_op2 (pe_op op_sub) (ops_lift opd_sub) ha hb
theorem d_mul (ha : DE X cl W a f) (hb : DE X cl W b g) : DE X cl W (.BinOp a .Mult b pos) (fOp (lift2 mulO) f g) := d_op2 (pe_op (OpR.or' op_mulW op_rep)) (ops_lift opd_mul) ha hb
theorem d_fdiv (ha : DE X cl W a f) (hb : DE X cl W b g) : DE X cl W (.BinOp a .FloorDiv b pos) (fOp (lift2 fdivO) f g) := d_op2 (pe_op op_fdivW) (ops_lift opd_fdiv) ha hb
theorem d_mod (ha : DE X cl W a f) (hb : DE X cl W b g) : DE X cl W (.BinOp a .Mod b pos) (fOp (lift2 modO) f g) := d_op2 (pe_op op_mod) (ops_lift opd_mod) ha hb
theorem d_pow (ha : DE X cl W a f) (hb : DE X cl W b g) : DE X cl W (.BinOp a .Pow b pos) (fOp (lift2 powO) f g) := d_op2 (pe_op op_powW) (ops_lift opd_pow) ha hb
theorem d_lt (ha : DE X cl W a f) (hb : DE X cl W b g) : DE X cl W (.Compare a [.Lt] [b] pos) (fOp (lift2 ltO) f g) := d_op2 (fun h1 h2 => pe_cmpR op_lt h1 h2 (nomark _)) (ops_lift opd_lt) ha hb
theorem d_le (ha : DE X cl W a f) (hb : DE X cl W b g) : DE X cl W (.Compare a [.LtE] [b] pos) (fOp (lift2 leO) f g) := d_op2 (fun h1 h2 => pe_cmpR op_le h1 h2 (nomark _)) (ops_lift opd_le) ha hb
theorem d_gt (ha : DE X cl W a f) (hb : DE X cl W b g) : DE X cl W (.Compare a [.Gt] [b] pos) (fOp (lift2 gtO) f g) := d_op2 (fun h1 h2 => pe_cmpR op_gt h1 h2 (nomark _)) (ops_lift opd_gt) ha hb
theorem d_ge (ha : DE X cl W a f) (hb : DE X cl W b g) : DE X cl W (.Compare a [.GtE] [b] pos) (fOp (lift2 geO) f g) := d_op2 (fun h1 h2 => pe_cmpR op_ge h1 h2 (nomark _)) (ops_lift opd_ge) ha hb
theorem d_eq (hu : X.A.units + 64 < cLine) (ha : DE X cl W a f) (hb : DE X cl W b g) : DE X cl W (.Compare a [.Eq] [b] pos) (fOp (lift2 eqO) f g) := d_op2 (fun h1 h2 => pe_cmpR (op_eqP hu) h1 h2 (nomark _)) (ops_lift opd_eq) ha hb
theorem d_in (hu : X.A.units + 64 < cLine) (hm : behindInMarks .In b = false) (ha : DE X cl W a f) (hb : DE X cl W b g) : DE X cl W (.Compare a [.In] [b] pos) (fOp (lift2 inO) f g) := d_op2 (fun h1 h2 => pe_cmpR (op_inP hu) h1 h2 hm) (ops_lift opd_in) ha hb
theorem d_notIn (hu : X.A.units + 64 < cLine) (hm : behindInMarks .NotIn b = false) (ha : DE X cl W a f) (hb : DE X cl W b g) : DE X cl W (.Compare a [.NotIn] [b] pos) (fOp (lift2 notInO) f g) := d_op2 (fun h1 h2 => pe_cmpR (op_notInP hu) h1 h2 hm) (ops_lift opd_notIn) ha hb
theorem d_ix (ha : DE X cl W a f) (hb : DE X cl W b g) (hs : PlainIx b) : DE X cl W (.Subscript a b pos) (fOp (lift2 ixO) f g) := d_op2 (fun h1 h2 => pe_ix ix_seq h1 h2 hs) (ops_lift opd_ix) ha hb
end
end DL

/-! DL4: tests, argument lists, displays, statements -/
noncomputable section
namespace DL
open PySem L2 PyProof.Rows
open Evl (Ex)

/-! ### tests -/
def fB (f : M R) : M Bool := bnd f fun r s => match look r s with
  | some (.bool b) => .ok b s
  | _ => .stuck
section
variable {X : Cx} {cl : String → Addr} {W : WX}
theorem test_of {K : PySem.W.Frag} {f : M R} {σ : L2.St} {H : Hp} {Q : Bool → Hp → Prop} (h : tT K cl W (fB f) σ H Q) : tD K cl W f σ H fun x H1 => ∃ k, x = .bl k ∧ Q k H1 := by
  obtain ⟨G, s, S, q⟩ := h
  refine ⟨G, s, S, out_mono (out_bind q) fun r G1 s1 H1 st S1 q1 v rr => ?_⟩
  split at q1
  · rename_i b e
    obtain rfl := dq_bl (look_q S1 rr e)
    exact ⟨b, rfl, q1 G1 H1 Stp.refl S1⟩
  · exact q1.elim
theorem d_tval {e : Expr} {f : M R} (h : DE X cl W e f) (he : ∀ whole, isTrue e X.env whole = (do let v ← whole; standAt e.pos; holding [v] (truthy v)) := by intro _; rfl) : DT X cl W e (fB f) :=
  pt_imp (pt_val h he) fun σ H Q q => test_of q
theorem d_opT {e a b : Expr} {f g : M R} {rl : R2} {o : R → R → M R} (h : ∀ {ta tb : TE}, PE X a ta → PE X b tb → PT X e (tTest (tOp rl ta tb))) (ho : OpS X.K rl o) (ha : DE X cl W a f) (hb : DE X cl W b g) : DT X cl W e (fB (fOp o f g)) := by
  refine pt_imp (h ha hb) fun σ H Q q => ?_
  obtain ⟨G, s, S, q⟩ := test_of q
  refine ⟨G, s, S, out_mono (out_bind q) fun x G1 s1 H1 st1 S1 q1 v1 r1 => ⟨G1, s1, S1, ?_⟩⟩
  refine out_mono (out_bind q1) fun y G2 s2 H2 st2 S2 q2 v2 r2 => ?_
  exact ho cl W G2 s2 σ H2 H v1 v2 x y _ S2 (r1.mono st2) (r2.less st1.dom) (out_less (st1.trans st2).dom q2)
def fAnd (f g : M Bool) : M Bool := bnd f fun b => if b then g else ret false
def fOr (f g : M Bool) : M Bool := bnd f fun b => if b then ret true else g
def fNot (f : M Bool) : M Bool := bnd f fun b => ret (!b)
theorem tand_of {K : PySem.W.Frag} {f g : M Bool} {σ : L2.St} {H : Hp} {Q : Bool → Hp → Prop} (h : tT K cl W (fAnd f g) σ H Q) : tAnd (tT K cl W f) (tT K cl W g) σ H Q := by
  obtain ⟨G, s, S, q⟩ := h
  refine ⟨G, s, S, out_mono (out_bind q) fun b G1 s1 H1 st S1 q1 => ?_⟩
  cases b with
  | true => exact ⟨G1, s1, S1, q1⟩
  | false => exact q1 G1 H1 Stp.refl S1
theorem tor_of {K : PySem.W.Frag} {f g : M Bool} {σ : L2.St} {H : Hp} {Q : Bool → Hp → Prop} (h : tT K cl W (fOr f g) σ H Q) : tOr (tT K cl W f) (tT K cl W g) σ H Q := by
  obtain ⟨G, s, S, q⟩ := h
  refine ⟨G, s, S, out_mono (out_bind q) fun b G1 s1 H1 st S1 q1 => ?_⟩
  cases b with
  | true => exact q1 G1 H1 Stp.refl S1
  | false => exact ⟨G1, s1, S1, q1⟩
theorem d_tnot {a : Expr} {f : M Bool} {pos : Pos} (ha : DT X cl W a f) : DT X cl W (.UnaryOp .Not a pos) (fNot f) := pt_imp (pt_not ha) fun σ H Q ⟨G, s, S, q⟩ =>
  ⟨G, s, S, out_mono (out_bind q) fun b G1 s1 H1 st S1 q1 => q1 G1 H1 Stp.refl S1⟩
theorem w_and1 {a : Expr} {f : M Bool} {pos : Pos} (ha : DT X cl W a f) : DW X cl W (.BoolOp .And [a] pos) f := pw_and1 ha
theorem w_or1 {a : Expr} {f : M Bool} {pos : Pos} (ha : DT X cl W a f) : DW X cl W (.BoolOp .Or [a] pos) f := pw_or1 ha
theorem w_and {a b : Expr} {rest : List Expr} {f g : M Bool} {pos : Pos} (ha : DT X cl W a f) (hb : DW X cl W (.BoolOp .And (b :: rest) pos) g) : DW X cl W (.BoolOp .And (a :: b :: rest) pos) (fAnd f g) := pw_imp (pw_and ha hb) fun σ H Q q => tand_of q
theorem w_or {a b : Expr} {rest : List Expr} {f g : M Bool} {pos : Pos} (ha : DT X cl W a f) (hb : DW X cl W (.BoolOp .Or (b :: rest) pos) g) : DW X cl W (.BoolOp .Or (a :: b :: rest) pos) (fOr f g) := pw_imp (pw_or ha hb) fun σ H Q q => tor_of q
theorem d_tw {e : Expr} {f : M Bool} (h : DW X cl W e f) : DT X cl W e f := PW.pt h
def fV (f : M Bool) : M R := bnd f fun b => ret (.val (.bool b))
def fAndV (f g : M R) : M R := bnd (fB f) fun b => if b then g else ret (.val (.bool false))
def fOrV (f g : M R) : M R := bnd (fB f) fun b => if b then ret (.val (.bool true)) else g
theorem v_one {op} {a : Expr} {f : M R} {pos : Pos} (h : DE X cl W a f) : DE X cl W (.BoolOp op [a] pos) f := pe_one h
theorem v_and {a b : Expr} {rest : List Expr} {f g : M R} {pos : Pos} (ha : DE X cl W a f) (hb : DE X cl W (.BoolOp .And (b :: rest) pos) g) : DE X cl W (.BoolOp .And (a :: b :: rest) pos) (fAndV f g) := by
  refine pe_imp (pe_and ha hb) fun σ H Q q => ?_
  obtain ⟨G, s, S, q⟩ := q
  have q2 : tT X.K cl W (fB f) σ H fun b H1 => if b = true then tD X.K cl W g σ H1 Q else Q (.bl false) H1 := by
    refine ⟨G, s, S, out_mono (out_bind q) fun b G1 s1 H1 st S1 k => ?_⟩
    cases b with
    | true => exact ⟨G1, s1, S1, out_less st.dom k⟩
    | false => exact k G1 H1 Stp.refl S1 _ (.bl false)
  exact test_of q2
theorem v_not {a : Expr} {f : M R} {pos : Pos} (ha : DE X cl W a f) : DE X cl W (.UnaryOp .Not a pos) (fV (fNot (fB f))) := by
  refine pe_imp (pe_not ha) fun σ H Q q => ?_
  obtain ⟨G, s, S, q⟩ := q
  have q2 : tT X.K cl W (fB f) σ H fun b H1 => Q (.bl (!b)) H1 := by
    refine ⟨G, s, S, out_mono (out_bind (out_bind q)) fun b G1 s1 H1 st S1 k => ?_⟩
    exact k G1 H1 Stp.refl S1 G1 H1 Stp.refl S1 _ (.bl _)
  exact test_of q2
def fIf (c : M Bool) (f g : M R) : M R := bnd c fun b => if b then f else g
/-! ### what is handed on: known from then on -/
def AR (K : PySem.W.Frag) (G : Hp) (v : V) : R → Prop
  | .val d => Rp K G v d
  | .raw u => v = u
  | .ob o => ObRel K G v o
  | _ => False
def esc (r : R) (s : DSt) : Option (R × DSt) := match r with
  | .val d => some (.val d, s)
  | .raw v => some (.raw v, s)
  | .ob o => some (.ob o, s)
  | .new ds => some (.val (.list ds), s)
  | .slot i => match s.d[i]? with
    | some (.own ds) => some (.val (.list ds), { s with d := s.d.set i (.val (.list ds)) })
    | some (.val d) => some (.val d, s)
    | _ => none
theorem know {K : PySem.W.Frag} {G H : Hp} {s : DSt} {σ : L2.St} {a : Addr} {xs : List V} {ds : List PyData} (S : SA K G s σ H) (ha : H a = some (.lst xs)) (hd : RpAll K G xs ds) (hg : G a = none) (hn : ¬ Own s σ a) :
    Ex G (upd G a (.lst xs)) ∧ SA K (upd G a (.lst xs)) s σ H ∧ Rp K (upd G a (.lst xs)) (.ref a) (.list ds) := by
  have ug : Ex G (upd G a (.lst xs)) := Ex.new hg
  refine ⟨ug, ⟨S.len, fun b u h => ?_, fun i sl h => ?_, S.inj, fun i b z => ?_, ?_, S.pne⟩, .lst upd_same (dps_mono ug _ _ hd)⟩
  · by_cases e : b = a
    · subst e; rw [upd_same] at h; rw [ha]; exact h
    · rw [upd_ne e] at h; exact S.gh b u h
  · have q := S.slot i sl h
    cases sl with
    | no => trivial
    | val d => obtain ⟨v, e, hd⟩ := q; exact ⟨v, e, dp_mono ug _ _ hd⟩
    | raw v => exact q
    | ob o => obtain ⟨v, e, hd⟩ := q; exact ⟨v, e, ob_mono ug hd⟩
    | own es => obtain ⟨b, ys, e, hb, hh⟩ := q; exact ⟨b, ys, e, hb, dps_mono ug _ _ hh⟩
  · rw [upd_ne fun e => hn (by subst e; exact .inl ⟨i, z⟩)]; exact S.ownG i b z
  · have q := S.pw
    unfold PwOk at q ⊢
    split
    · trivial
    · rename_i pa ca cells t e
      rw [e] at q
      refine ⟨q.1, q.2.1, q.2.2.1, ?_, ?_⟩
      · rw [upd_ne fun z => hn (by subst z; exact .inr (by rw [e]; exact .inl rfl))]; exact q.2.2.2.1
      · rw [upd_ne fun z => hn (by subst z; exact .inr (by rw [e]; exact .inr rfl))]; exact q.2.2.2.2
theorem own_set {s : DSt} {σ : L2.St} {i j : Nat} {d : PyData} {a : Addr} : OwnAt { s with d := s.d.set i (.val d) } σ j a ↔ j ≠ i ∧ OwnAt s σ j a := by
  constructor
  · rintro ⟨⟨ds, e⟩, h⟩
    by_cases q : j = i
    · subst q
      simp only [List.getElem?_set] at e
      split at e
      · split at e <;> cases e
      · rename_i z; simp at z
    · simp only [List.getElem?_set_ne (Ne.symm q)] at e
      exact ⟨q, ⟨ds, e⟩, h⟩
  · rintro ⟨q, ⟨ds, e⟩, h⟩
    refine ⟨⟨ds, ?_⟩, h⟩
    simp only [List.getElem?_set_ne (Ne.symm q)]
    exact e
theorem slot_known {K : PySem.W.Frag} {G H : Hp} {s : DSt} {σ : L2.St} {i : Nat} {ds : List PyData} (S : SA K G s σ H) (h : s.d[i]? = some (.own ds)) :
    ∃ a xs, σ[i]? = some (some (.ref a)) ∧ H a = some (.lst xs) ∧ Stp G s σ H (upd G a (.lst xs)) { s with d := s.d.set i (.val (.list ds)) } σ H ∧ SA K (upd G a (.lst xs)) { s with d := s.d.set i (.val (.list ds)) } σ H ∧ Rp K (upd G a (.lst xs)) (.ref a) (.list ds) := by
  obtain ⟨a, xs, e, ha, hd⟩ := S.slot i _ h
  have e' : σ[i]? = some (some (.ref a)) := by
    cases z : σ[i]? with
    | none => rw [z] at e; cases e
    | some o => rw [z] at e; simp at e; rw [e]
  have hown : OwnAt s σ i a := ⟨⟨ds, h⟩, e'⟩
  have hg := S.ownG i a hown
  have il : i < s.d.length := (List.getElem?_eq_some_iff.mp h).1
  have ug : Ex G (upd G a (.lst xs)) := Ex.new hg
  have rp : Rp K (upd G a (.lst xs)) (.ref a) (.list ds) := .lst upd_same (dps_mono ug _ _ hd)
  refine ⟨a, xs, e', ha, ⟨ug, fun b u hb nb => ⟨hb, upd_ne fun z => nb (by subst z; exact .inl ⟨i, hown⟩)⟩, fun b z => ?_, fun b z => z, fun b z => z⟩, ⟨by simp [S.len], fun b u hb => ?_, fun j sl hj => ?_, fun j k b h1 h2 => ?_, fun j b z => ?_, ?_, fun j b z => ?_⟩, rp⟩
  · refine .inl ?_
    rcases z with ⟨j, z⟩ | z
    · exact .inl ⟨j, (own_set.mp z).2⟩
    · exact .inr z
  · by_cases q : b = a
    · subst q; rw [upd_same] at hb; rw [ha]; exact hb
    · rw [upd_ne q] at hb; exact S.gh b u hb
  · by_cases q : j = i
    · subst q
      simp only [List.getElem?_set_self il] at hj
      cases hj
      exact ⟨.ref a, by rw [e'] <;> rfl, rp⟩
    · simp only [List.getElem?_set_ne (Ne.symm q)] at hj
      have z := S.slot j sl hj
      cases sl with
      | no => trivial
      | val d => obtain ⟨v, e, hd⟩ := z; exact ⟨v, e, dp_mono ug _ _ hd⟩
      | raw v => exact z
      | ob o => obtain ⟨v, e, hd⟩ := z; exact ⟨v, e, ob_mono ug hd⟩
      | own es => obtain ⟨b, ys, e, hb, hh⟩ := z; exact ⟨b, ys, e, hb, dps_mono ug _ _ hh⟩
  · exact S.inj j k b (own_set.mp h1).2 (own_set.mp h2).2
  · obtain ⟨q, z⟩ := own_set.mp z
    rw [upd_ne fun e => q (by subst e; exact S.inj j i b z hown)]
    exact S.ownG j b z
  · have q := S.pw
    have pn := S.pne i a hown
    unfold PwOk at q ⊢
    split
    · trivial
    · rename_i pa ca cells t e
      have e : s.w = some (pa, ca, cells, t) := e
      rw [e] at q pn
      refine ⟨q.1, q.2.1, q.2.2.1, ?_, ?_⟩
      · rw [upd_ne fun z => pn (.inl z.symm)]; exact q.2.2.2.1
      · rw [upd_ne fun z => pn (.inr z.symm)]; exact q.2.2.2.2
  · exact S.pne j b (own_set.mp z).2
theorem esc_ok {K : PySem.W.Frag} {G0 H0 G H : Hp} {s0 s : DSt} {σ0 σ : L2.St} {v : V} {r r' : R} {s' : DSt} (S : SA K G s σ H) (st : Stp G0 s0 σ0 H0 G s σ H) (h : RRel K H0 G s σ H v r) (e : esc r s = some (r', s')) :
    ∃ G', Stp G0 s0 σ0 H0 G' s' σ H ∧ SA K G' s' σ H ∧ Ex G G' ∧ AR K G' v r' := by
  cases r with
  | val d => cases e; exact ⟨G, st, S, Ex.refl G, h⟩
  | raw u => cases e; exact ⟨G, st, S, Ex.refl G, h⟩
  | ob o => cases e; exact ⟨G, st, S, Ex.refl G, h⟩
  | new ds =>
    cases e
    obtain ⟨a, xs, rfl, ha, hd, hg, h0, hn⟩ := h
    obtain ⟨ug, S', rp⟩ := know S ha hd hg hn
    refine ⟨_, ⟨st.ex.trans ug, fun b u hb nb => ?_, st.own, st.dom, st.pw⟩, S', ug, rp⟩
    obtain ⟨h1, g1⟩ := st.keep b u hb nb
    exact ⟨h1, by rw [upd_ne fun z => by subst z; rw [h0] at hb; cases hb]; exact g1⟩
  | slot i =>
    simp only [esc] at e
    split at e
    · rename_i ds q
      cases e
      obtain ⟨a, xs, e1, ha, st', S', rp⟩ := slot_known S q
      have h' : σ[i]? = some (some v) := h
      rw [e1] at h'
      cases h'
      exact ⟨_, st.trans st', S', st'.ex, rp⟩
    · rename_i d q
      cases e
      have h' : σ[i]? = some (some v) := h
      obtain ⟨u, e1, hd⟩ := S.slot i _ q
      rw [h'] at e1
      cases e1
      exact ⟨G, st, S, Ex.refl G, hd⟩
    · cases e
def fEsc (r : R) : M R := fun s => match esc r s with
  | some (r', s') => .ok r' s'
  | none => .stuck
theorem ar_mono {K : PySem.W.Frag} {G G' : Hp} {v : V} {r : R} (e : Ex G G') (h : AR K G v r) : AR K G' v r := by
  cases r with
  | val d => exact dp_mono e _ _ h
  | raw u => exact h
  | ob o => exact ob_mono e h
  | new ds => exact h
  | slot i => exact h
end
end DL

/-! DL5: argument lists, displays, slices, statements -/
noncomputable section
namespace DL
open PySem L2 PyProof.Rows
open Evl (Ex)
section
variable {K : PySem.W.Frag} {cl : String → Addr} {W : WX} {G H : Hp} {s : DSt} {σ : L2.St}
def OutF {α : Type} (K : PySem.W.Frag) (cl : String → Addr) (W : WX) (G0 : Hp) (s0 : DSt) (σ0 : L2.St) (H0 : Hp) (σ : L2.St) (r : Res α) (k : α → Hp → DSt → Hp → Prop) : Prop := match r with
  | .ok a s' => ∀ G' H', Stp G0 s0 σ0 H0 G' s' σ H' → SA K G' s' σ H' → k a G' s' H'
  | .err x s' => ∀ cls d G' H', Stp G0 s0 σ0 H0 G' s' σ H' → SA K G' s' σ H' → XRel K cl x cls d G' → W cls d σ H'
  | .stuck => False
theorem out_esc {β : Type} {f : Res R} {g : R → M β} {k : β → Hp → DSt → Hp → Prop} (h : Out K cl W G s σ H (f.bind fun r => bnd (fEsc r) g) k) :
    Out K cl W G s σ H f fun r G1 s1 H1 => ∀ v, RRel K H G1 s1 σ H1 v r → ∃ G2 s2 r2, Stp G s σ H G2 s2 σ H1 ∧ SA K G2 s2 σ H1 ∧ AR K G2 v r2 ∧ Ex G1 G2 ∧
      Out K cl W G2 s2 σ H1 (g r2 s2) k := by
  cases f with
  | ok r s1 =>
    intro G1 H1 st S1 v rr
    have h : Out K cl W G s σ H ((fEsc r s1).bind g) k := h
    unfold fEsc at h
    cases e : esc r s1 with
    | none => rw [e] at h; exact h.elim
    | some p =>
      obtain ⟨r2, s2⟩ := p
      rw [e] at h
      obtain ⟨G2, st2, S2, ex, ar⟩ := esc_ok S1 st rr e
      refine ⟨G2, s2, r2, st2, S2, ar, ex, ?_⟩
      have h : Out K cl W G s σ H (g r2 s2) k := h
      cases q : g r2 s2 with
      | ok b s3 => rw [q] at h; exact fun G3 H3 st3 S3 => h G3 H3 (st2.trans st3) S3
      | err x s3 => rw [q] at h; exact fun c d G3 H3 st3 S3 xr => h c d G3 H3 (st2.trans st3) S3 xr
      | stuck => rw [q] at h; exact h
  | err x s1 => exact h
  | stuck => exact h
def tAe (K : PySem.W.Frag) (cl : String → Addr) (W : WX) (f : M (List R)) : TA := fun σ H Q => ∃ G s, SA K G s σ H ∧ Out K cl W G s σ H (f s) fun rs G' s' H' => ∀ vs, Paired (AR K G') vs rs → Q vs H'
end
section
variable {X : Cx} {cl : String → Addr} {W : WX} {e a b c : Expr} {es : List Expr} {f g : M R} {fs : M (List R)} {pos : Pos}
abbrev DAe (X : Cx) (cl : String → Addr) (W : WX) (es : List Expr) (f : M (List R)) : Prop := PA X es (tAe X.K cl W f)
def fNil : M (List R) := ret []
def fCons (f : M R) (fs : M (List R)) : M (List R) := bnd f fun r => bnd (fEsc r) fun r' => bnd fs fun rs => ret (r' :: rs)
def pCons (f : M R) (fs : M (List R)) : M (List R) := bnd f fun r => bnd fs fun rs => ret (r :: rs)
theorem ae_nil : DAe X cl W [] fNil := pa_imp pa_nil fun σ H Q ⟨G, s, S, q⟩ => q G H Stp.refl S [] .nil
theorem ae_cons (ha : DE X cl W e f) (hr : DAe X cl W es fs) (hs : starEach (e :: es) X.env = (false, eval e X.env) :: starEach es X.env := by rfl) : DAe X cl W (e :: es) (fCons f fs) := by
  refine pa_imp (pa_cons ha hr hs) fun σ H Q ⟨G, s, S, q⟩ => ?_
  refine ⟨G, s, S, out_mono (out_esc q) fun r G1 s1 H1 st S1 k v rr => ?_⟩
  obtain ⟨G2, s2, r2, st2, S2, ar, ex, k2⟩ := k v rr
  refine ⟨G2, s2, S2, out_mono (out_bind k2) fun rs G3 s3 H3 st3 S3 k3 vs hv => ?_⟩
  exact k3 G3 H3 Stp.refl S3 (v :: vs) (.cons (ar_mono st3.ex ar) hv)
theorem ap_nil : DA X cl W [] fNil := pa_imp pa_nil fun σ H Q ⟨G, s, S, q⟩ => q G H Stp.refl S [] .nil
theorem pair_less {K : PySem.W.Frag} {H0 H1 G H : Hp} {s : DSt} {σ : L2.St} (d : ∀ a, H0 a ≠ none → H1 a ≠ none) : ∀ {vs : List V} {rs : List R}, RRels K H1 G s σ H vs rs → RRels K H0 G s σ H vs rs
  | _, _, .nil => .nil
  | _, _, .cons h t => .cons (h.less d) (pair_less d t)
theorem ap_cons (ha : DE X cl W e f) (hr : DA X cl W es fs) (hs : starEach (e :: es) X.env = (false, eval e X.env) :: starEach es X.env := by rfl) : DA X cl W (e :: es) (pCons f fs) := by
  refine pa_imp (pa_cons ha hr hs) fun σ H Q ⟨G, s, S, q⟩ => ?_
  refine ⟨G, s, S, out_mono (out_bind q) fun r G1 s1 H1 st S1 k v rr => ?_⟩
  refine ⟨G1, s1, S1, out_mono (out_bind k) fun rs G3 s3 H3 st3 S3 k3 vs hv => ?_⟩
  exact k3 G3 H3 Stp.refl S3 (v :: vs) (.cons (rr.mono st3) (pair_less st.dom hv))
def datas : List R → Option (List PyData)
  | [] => some []
  | .val d :: r => (datas r).map (d :: ·)
  | _ :: _ => none
theorem datas_rp {K : PySem.W.Frag} {G : Hp} : ∀ {rs : List R} {vs : List V} {ds : List PyData}, Paired (AR K G) vs rs → datas rs = some ds → RpAll K G vs ds
  | [], _, ds, .nil, e => by cases e; exact .nil
  | .val d :: r, _, ds, .cons h t, e => by
    simp only [datas] at e
    cases q : datas r with
    | none => rw [q] at e; cases e
    | some es => rw [q] at e; cases e; exact .cons h (datas_rp t q)
  | .raw _ :: _, _, _, _, e | .ob _ :: _, _, _, _, e | .new _ :: _, _, _, _, e | .slot _ :: _, _, _, _, e => by cases e
def fLst (fs : M (List R)) : M R := bnd fs fun rs s => match datas rs with
  | some ds => if leS (ds.length) then .ok (.new ds) s else .stuck
  | none => .stuck
def fTup (fs : M (List R)) : M R := bnd fs fun rs s => match datas rs with
  | some ds => if leS (ds.length) then .ok (.val (.tuple ds)) s else .stuck
  | none => .stuck
theorem d_lst (h : DAe X cl W es fs) : DE X cl W (.List es pos) (fLst fs) := by
  refine pe_imp (pe_lst h) fun σ H Q ⟨G, s, S, q⟩ => ?_
  refine ⟨G, s, S, out_mono (out_bind q) fun rs G1 s1 H1 st S1 k vs hv => ?_⟩
  split at k
  · rename_i ds e
    split at k
    · rename_i hl
      have hd := datas_rp hv e
      refine ⟨by rw [dps_len hd]; exact hl, fun p hp => ?_⟩
      obtain ⟨st2, S2, rr⟩ := new_list S1 hp hd st.dom
      exact k _ _ st2 S2 _ rr
    · exact k.elim
  · exact k.elim
theorem d_tup {x1} (h : DAe X cl W es fs) : DE X cl W (.Tuple es x1 pos) (fTup fs) := by
  refine pe_imp (pe_tup h) fun σ H Q ⟨G, s, S, q⟩ => ?_
  refine ⟨G, s, S, out_mono (out_bind q) fun rs G1 s1 H1 st S1 k vs hv => ?_⟩
  split at k
  · rename_i ds e
    split at k
    · rename_i hl
      have hd := datas_rp hv e
      refine ⟨by rw [dps_len hd]; exact hl, fun p hp => ?_⟩
      obtain ⟨st2, S2⟩ := new_known (.tup vs) S1 hp
      exact k _ _ st2 S2 _ (.tup upd_same (dps_mono st2.ex _ _ hd))
    · exact k.elim
  · exact k.elim

/-! ### slices -/
def fPart (f : M R) : M (Option Int) := bnd f fun r s => match look r s with
  | some (.int i) => .ok (some i) s
  | _ => .stuck
def fNoPart : M (Option Int) := ret none
def tP (K : PySem.W.Frag) (cl : String → Addr) (W : WX) (f : M (Option Int)) : TO := fun σ H Q => ∃ G s, SA K G s σ H ∧ Out K cl W G s σ H (f s) fun o _ _ H' => Q o H'
theorem po_imp {o : Option Expr} {t t' : TO} (h : PO X o t) (i : ∀ σ H Q, t' σ H Q → t σ H Q) : PO X o t' := ⟨fun pins s σ H Q I q => h.run pins s σ H Q I (i σ H Q q)⟩
abbrev DP (X : Cx) (cl : String → Addr) (W : WX) (o : Option Expr) (f : M (Option Int)) : Prop := PO X o (tP X.K cl W f)
theorem dp_none : DP X cl W none fNoPart := po_imp po_none fun σ H Q ⟨G, s, S, q⟩ => q G H Stp.refl S
theorem dp_some (h : DE X cl W e f) : DP X cl W (some e) (fPart f) := po_imp (po_some h) fun σ H Q ⟨G, s, S, q⟩ => by
  refine ⟨G, s, S, out_mono (out_bind q) fun r G1 s1 H1 st S1 k v rr => ?_⟩
  split at k
  · rename_i i e
    obtain rfl := dq_int (look_q S1 rr e)
    exact ⟨i, rfl, k G1 H1 Stp.refl S1⟩
  · exact k.elim
def cutD (xs : List PyData) (lo hi : Option Int) : List PyData := (xs.drop (HT.sIx xs.length 0 lo)).take (HT.sIx xs.length xs.length hi - HT.sIx xs.length 0 lo)
def sliceO (d : PyData) (lo hi : Option Int) : Option R := match d with
  | .list xs => some (.new (cutD xs lo hi))
  | .tuple xs => some (.val (.tuple (cutD xs lo hi)))
  | _ => none
def fSlice (f : M R) (l h : M (Option Int)) : M R := bnd f fun x => bnd l fun lo => bnd h fun hi s => match look x s with
  | some d => match sliceO d lo hi with
    | some (.slot _) => .stuck
    | some r => .ok r s
    | none => .stuck
  | none => .stuck
theorem cut_rp {K : PySem.W.Frag} {G : Hp} {xs : List V} {ds : List PyData} {lo hi : Option Int} (h : RpAll K G xs ds) : RpAll K G (cutV xs lo hi) (cutD ds lo hi) := by
  unfold cutV cutD
  rw [dps_len h]
  exact dps_take _ (dps_drop _ h)
theorem d_slice {lo hi : Option Expr} {l h : M (Option Int)} {p2 : Pos} (ha : DE X cl W e f) (hl : DP X cl W lo l) (hh : DP X cl W hi h) : DE X cl W (.Subscript e (.Slice lo hi none p2) pos) (fSlice f l h) := by
  refine pe_imp (pe_slice (sl_list.or sl_tupA) ha hl hh) fun σ H Q ⟨G, s, S, q⟩ => ?_
  refine ⟨G, s, S, out_mono (out_bind q) fun x G1 s1 H1 st1 S1 q1 v1 r1 => ⟨G1, s1, S1, ?_⟩⟩
  refine out_mono (out_bind q1) fun lo G2 s2 H2 st2 S2 q2 => ⟨G2, s2, S2, ?_⟩
  refine out_mono (out_bind q2) fun hi G3 s3 H3 st3 S3 q3 => ?_
  have r3 := (r1.mono st2).mono st3
  split at q3
  · rename_i d e
    have hd := look_q S3 r3 e
    split at q3
    · exact q3.elim
    · rename_i r ns ho
      have an := ans_of S3 ((st1.trans st2).trans st3).dom (fun i z => ns i z) q3
      unfold sliceO at ho
      split at ho
      · cases ho
        obtain ⟨p, xs, rfl, hp, hpx⟩ := dq_lst hd
        exact .inl ⟨p, xs, rfl, .of hp, fun l hl => an l _ hl (cut_rp hpx)⟩
      · rename_i ds
        cases ho
        obtain ⟨p, xs, rfl, hp, hpx, h1⟩ := dq_tup S3.gh hd
        refine .inr ⟨p, xs, rfl, hp, fun ⟨z1, z2⟩ => ?_, fun _ l hl => an.2 _ l _ rfl hl (cut_rp hpx)⟩
        refine an.1 _ ?_
        have e1 : cutD ds lo hi = ds := by
          unfold cutD
          rw [← dps_len hpx, z1, z2, dps_len hpx]
          simp
        rw [e1]
        exact h1
      · cases ho
    · exact q3.elim
  · exact q3.elim
def revO : PyData → Option R
  | .list xs => some (.new xs.reverse)
  | _ => none
def fUn (o : R → M R) (f : M R) : M R := bnd f o
theorem d_rev {k : Nat} {p1 p2 p3 : Pos} (ha : DE X cl W e f) : DE X cl W (.Subscript e (.Slice none none (some (.UnaryOp .USub (.Constant (.int 1) k p1) p2)) p3) pos) (fUn (lift1 revO) f) := by
  refine pe_imp (pe_revL ha) fun σ H Q ⟨G, s, S, q⟩ => ?_
  refine ⟨G, s, S, out_mono (out_bind q) fun x G1 s1 H1 st1 S1 q1 v1 r1 => ?_⟩
  unfold lift1 at q1
  split at q1
  · rename_i d e
    have hd := look_q S1 r1 e
    split at q1
    · exact q1.elim
    · rename_i r ns ho
      have an := ans_of S1 st1.dom (fun i z => ns i z) q1
      unfold revO at ho
      split at ho
      · cases ho
        obtain ⟨p, xs, rfl, hp, hpx⟩ := dq_lst hd
        exact ⟨p, xs, rfl, .of hp, fun l hl => an l _ hl (dps_rev hpx)⟩
      · cases ho
    · exact q1.elim
  · exact q1.elim
def negO : PyData → Option R
  | .int i => some (.val (.int (-i)))
  | _ => none
theorem d_neg (ha : DE X cl W e f) : DE X cl W (.UnaryOp .USub e pos) (fUn (lift1 negO) f) := by
  refine pe_imp (pe_un un_neg ha) fun σ H Q ⟨G, s, S, q⟩ => ?_
  refine ⟨G, s, S, out_mono (out_bind q) fun x G1 s1 H1 st1 S1 q1 v1 r1 => ?_⟩
  unfold lift1 at q1
  split at q1
  · rename_i d e
    have hd := look_q S1 r1 e
    split at q1
    · exact q1.elim
    · rename_i r ns ho
      have an := ans_of S1 st1.dom (fun i z => ns i z) q1
      unfold negO at ho
      split at ho
      · cases ho
        obtain rfl := dq_int hd
        exact ⟨_, rfl, an.1 _ (.int _)⟩
      · cases ho
    · exact q1.elim
  · exact q1.elim
def isNR (r : R) (s : DSt) : Option Bool := match r with
  | .raw v => some (decide (v = .non))
  | .ob _ => some false
  | r => match look r s with
    | some .none => some true
    | some _ => some false
    | none => none
def fIsN (neg : Bool) (f : M R) : M R := bnd f fun r s => match isNR r s with
  | some b => .ok (.val (.bool (if neg then !b else b))) s
  | none => .stuck
theorem isNR_ok {K : PySem.W.Frag} {H0 G H : Hp} {s : DSt} {σ : L2.St} {v : V} {r : R} {b : Bool} (S : SA K G s σ H) (h : RRel K H0 G s σ H v r) (e : isNR r s = some b) : decide (v = .non) = b := by
  have go : ∀ d, Dq K G H v d → (match some d with | some PyData.none => some true | some _ => some false | none => none) = some b → decide (v = .non) = b := by
    intro d hd e
    cases d with
    | none => cases e; cases (show Rp K G v .none from hd); rfl
    | bool x => cases e; cases (show Rp K G v (.bool x) from hd); rfl
    | int x => cases e; cases (show Rp K G v (.int x) from hd); rfl
    | str x => cases e; cases (show Rp K G v (.str x) from hd); rfl
    | list x => cases e; obtain ⟨a, xs, rfl, _⟩ := dq_lst hd; rfl
    | tuple x => cases e; cases (show Rp K G v (.tuple x) from hd); rfl
    | dict x => cases (show Rp K G v (.dict x) from hd)
  unfold isNR at e
  split at e
  · cases e
    have h : v = _ := h
    rw [h]
  · cases e
    rename_i o
    cases o with
    | dict kvs => obtain ⟨a, vs, rfl, _⟩ := h; rfl
    | dictT kvs => obtain ⟨a, vs, rfl, _⟩ := h; rfl
    | exc x => obtain ⟨a, d, rfl, _⟩ := h; rfl
    | set S n => obtain ⟨a, rfl, _⟩ := h; rfl
    | scr ns => obtain ⟨a, rfl, _⟩ := h; rfl
    | excs n is => obtain ⟨a, vs, rfl, _⟩ := h; rfl
  · split at e
    · rename_i q; exact go _ (look_q S h q) e
    · rename_i d _ q
      refine go d (look_q S h q) ?_
      rw [← e]
      split
      · rename_i z _ w; exact absurd (Option.some.inj w) (by assumption)
      · rfl
      · rename_i w; cases w
    · cases e
theorem is_reads {rl : TE → TE} (neg : Bool) (hf : ∀ te σ H Q, te σ H (fun x H1 => Q (.bl (if neg then !decide (x = V.non) else decide (x = V.non))) H1) → rl te σ H Q) {K : PySem.W.Frag} {σ : L2.St} {H : Hp} {Q : VK} (q : tD K cl W (fIsN neg f) σ H Q) : rl (tD K cl W f) σ H Q := by
  obtain ⟨G, s, S, q⟩ := q
  refine hf _ _ _ _ ⟨G, s, S, out_mono (out_bind q) fun x G1 s1 H1 st1 S1 q1 v1 r1 => ?_⟩
  split at q1
  · rename_i b e
    have z := isNR_ok S1 r1 e
    have an := q1 G1 H1 Stp.refl S1 (.bl (if neg then !b else b)) (.bl _)
    rw [← z] at an
    exact an
  · exact q1.elim
theorem d_isN {j pos'} (ha : DE X cl W a f) : DE X cl W (.Compare a [.Is] [.Constant .none j pos'] pos) (fIsN false f) := pe_imp (pe_cmp (pc_isN ha) rfl) fun σ H Q q => is_reads (rl := tIsN) false (fun _ _ _ _ h => h) q
theorem t_notN {j pos'} (ha : DE X cl W a f) : DT X cl W (.Compare a [.IsNot] [.Constant .none j pos'] pos) (fB (fIsN true f)) := pt_imp (pt_cmp (pc_notN ha) rfl) fun σ H Q q => is_reads (rl := tNotN) true (fun _ _ _ _ h => h) (test_of q)
theorem t_lt (ha : DE X cl W a f) (hb : DE X cl W b g) : DT X cl W (.Compare a [.Lt] [b] pos) (fB (fOp (lift2 ltO) f g)) := d_opT (fun h1 h2 => pt_cmpR op_lt h1 h2 (nomark _)) (ops_lift opd_lt) ha hb
theorem t_le (ha : DE X cl W a f) (hb : DE X cl W b g) : DT X cl W (.Compare a [.LtE] [b] pos) (fB (fOp (lift2 leO) f g)) := d_opT (fun h1 h2 => pt_cmpR op_le h1 h2 (nomark _)) (ops_lift opd_le) ha hb
theorem t_gt (ha : DE X cl W a f) (hb : DE X cl W b g) : DT X cl W (.Compare a [.Gt] [b] pos) (fB (fOp (lift2 gtO) f g)) := d_opT (fun h1 h2 => pt_cmpR op_gt h1 h2 (nomark _)) (ops_lift opd_gt) ha hb
theorem t_ge (ha : DE X cl W a f) (hb : DE X cl W b g) : DT X cl W (.Compare a [.GtE] [b] pos) (fB (fOp (lift2 geO) f g)) := d_opT (fun h1 h2 => pt_cmpR op_ge h1 h2 (nomark _)) (ops_lift opd_ge) ha hb
theorem t_eq (hu : X.A.units + 64 < cLine) (ha : DE X cl W a f) (hb : DE X cl W b g) : DT X cl W (.Compare a [.Eq] [b] pos) (fB (fOp (lift2 eqO) f g)) := d_opT (fun h1 h2 => pt_cmpR (op_eqP hu) h1 h2 (nomark _)) (ops_lift opd_eq) ha hb
theorem t_ne (hu : X.A.units + 64 < cLine) (ha : DE X cl W a f) (hb : DE X cl W b g) : DT X cl W (.Compare a [.NotEq] [b] pos) (fB (fOp (lift2 neO) f g)) := d_opT (fun h1 h2 => pt_cmpR (op_neP hu) h1 h2 (nomark _)) (ops_lift opd_ne) ha hb
theorem t_in (hu : X.A.units + 64 < cLine) (hm : behindInMarks .In b = false) (ha : DE X cl W a f) (hb : DE X cl W b g) : DT X cl W (.Compare a [.In] [b] pos) (fB (fOp (lift2 inO) f g)) := d_opT (fun h1 h2 => pt_cmpR (op_inP hu) h1 h2 hm) (ops_lift opd_in) ha hb
theorem t_notIn (hu : X.A.units + 64 < cLine) (hm : behindInMarks .NotIn b = false) (ha : DE X cl W a f) (hb : DE X cl W b g) : DT X cl W (.Compare a [.NotIn] [b] pos) (fB (fOp (lift2 notInO) f g)) := d_opT (fun h1 h2 => pt_cmpR (op_notInP hu) h1 h2 hm) (ops_lift opd_notIn) ha hb
end
end DL

/-! DL6: statements, loops -/
noncomputable section
namespace DL
open PySem L2 PyProof.Rows
open Evl (Ex)
/-! ### a slot is set -/
def putS (i : Nat) (x : Sl) (s : DSt) : DSt := { s with d := s.d.set i x }
def store (i : Nat) (r : R) (s : DSt) : Option DSt := match r with
  | .val d => some (putS i (.val d) s)
  | .raw v => some (putS i (.raw v) s)
  | .ob o => some (putS i (.ob o) s)
  | .new ds => some (putS i (.own ds) s)
  | .slot j => match s.d[j]? with
    | some (.own ds) => some (putS i (.val (.list ds)) (putS j (.val (.list ds)) s))
    | some (.val d) => some (putS i (.val d) s)
    | _ => none
section
variable {K : PySem.W.Frag} {G H G0 H0 : Hp} {s s0 : DSt} {σ σ0 : L2.St}
theorem own_put {i j : Nat} {x : Sl} {v : V} {a : Addr} (hi : i < s.d.length) (hl : s.d.length = σ.length) : OwnAt (putS i x s) (σ.set i (some v)) j a → (j = i ∧ (∃ ds, x = .own ds) ∧ v = .ref a) ∨ (j ≠ i ∧ OwnAt s σ j a) := by
  rintro ⟨⟨ds, e⟩, h⟩
  by_cases q : j = i
  · subst q
    unfold putS at e
    simp only [List.getElem?_set_self hi] at e
    rw [List.getElem?_set_self (by omega)] at h
    cases e
    cases h
    exact .inl ⟨rfl, ⟨ds, rfl⟩, rfl⟩
  · unfold putS at e
    simp only [List.getElem?_set_ne (Ne.symm q)] at e
    rw [List.getElem?_set_ne (Ne.symm q)] at h
    exact .inr ⟨q, ⟨ds, e⟩, h⟩
theorem put_ok {i : Nat} {x : Sl} {v : V} (S : SA K G s σ H) (hi : i < s.d.length) (hx : SlOk K G H (some v) x) (ho : ∀ ds a, x = .own ds → v = .ref a → G a = none ∧ ¬ POwn s.w a ∧ ∀ j, j ≠ i → ¬ OwnAt s σ j a) : SA K G (putS i x s) (σ.set i (some v)) H := by
  refine ⟨by simp [putS, S.len], S.gh, fun j sl h => ?_, fun j k a h1 h2 => ?_, fun j a h => ?_, S.pw, fun j a h => ?_⟩
  · by_cases q : j = i
    · subst q
      simp only [putS, List.getElem?_set_self hi] at h
      cases h
      rw [List.getElem?_set_self (by rw [← S.len]; exact hi)]
      exact hx
    · simp only [putS, List.getElem?_set_ne (Ne.symm q)] at h
      rw [List.getElem?_set_ne (Ne.symm q)]
      exact S.slot j sl h
  · rcases own_put hi S.len h1 with ⟨e1, ⟨ds, e2⟩, e3⟩ | ⟨e1, h1⟩ <;> rcases own_put hi S.len h2 with ⟨f1, ⟨es, f2⟩, f3⟩ | ⟨f1, h2⟩
    · rw [e1, f1]
    · exact absurd h2 ((ho ds a e2 e3).2.2 k f1)
    · exact absurd h1 ((ho es a f2 f3).2.2 j e1)
    · exact S.inj j k a h1 h2
  · rcases own_put hi S.len h with ⟨e1, ⟨ds, e2⟩, e3⟩ | ⟨e1, h1⟩
    · exact (ho ds a e2 e3).1
    · exact S.ownG j a h1
  · rcases own_put hi S.len h with ⟨e1, ⟨ds, e2⟩, e3⟩ | ⟨e1, h1⟩
    · exact (ho ds a e2 e3).2.1
    · exact S.pne j a h1
theorem put_stp {i : Nat} {x : Sl} {v : V} (S : SA K G s σ H) (st : Stp G0 s0 σ0 H0 G s σ H) (hi : i < s.d.length) (ho : ∀ ds a, x = .own ds → v = .ref a → H0 a = none ∨ Own s σ a) : Stp G0 s0 σ0 H0 G (putS i x s) (σ.set i (some v)) H := by
  refine ⟨st.ex, st.keep, fun a z => ?_, st.dom, st.pw⟩
  rcases z with ⟨j, z⟩ | z
  · rcases own_put hi S.len z with ⟨e1, ⟨ds, e2⟩, e3⟩ | ⟨e1, h1⟩
    · rcases ho ds a e2 e3 with q | q
      · exact .inr q
      · exact st.own a q
    · exact st.own a (.inl ⟨j, h1⟩)
  · exact st.own a (.inr z)
theorem store_good {i : Nat} {r : R} {v : V} {s' : DSt} (S : SA K G s σ H) (st : Stp G0 s0 σ0 H0 G s σ H) (h : RRel K H0 G s σ H v r) (hi : i < s.d.length) (e : store i r s = some s') :
    ∃ G', Stp G0 s0 σ0 H0 G' s' (σ.set i (some v)) H ∧ SA K G' s' (σ.set i (some v)) H ∧ Ex G G' := by
  cases r with
  | val d => cases e; exact ⟨G, put_stp S st hi (by intro _ _ z; cases z), put_ok S hi ⟨v, rfl, h⟩ (by intro _ _ z; cases z), Ex.refl G⟩
  | ob o => cases e; exact ⟨G, put_stp S st hi (by intro _ _ z; cases z), put_ok S hi ⟨v, rfl, h⟩ (by intro _ _ z; cases z), Ex.refl G⟩
  | raw u =>
    cases e
    have h : v = u := h
    subst h
    exact ⟨G, put_stp S st hi (by intro _ _ z; cases z), put_ok S hi rfl (by intro _ _ z; cases z), Ex.refl G⟩
  | new ds =>
    cases e
    obtain ⟨a, xs, rfl, ha, hd, hg, h0, hn⟩ := h
    refine ⟨G, put_stp S st hi (fun es b z1 z2 => ?_), put_ok S hi ⟨a, xs, rfl, ha, hd⟩ (fun es b z1 z2 => ?_), Ex.refl G⟩
    · cases z2; exact .inl h0
    · cases z2; exact ⟨hg, fun z => hn (.inr z), fun j _ z => hn (.inl ⟨j, z⟩)⟩
  | slot j =>
    simp only [store] at e
    split at e
    · rename_i ds q
      cases e
      obtain ⟨a, xs, e1, ha, st', S', rp⟩ := slot_known S q
      have h' : σ[j]? = some (some v) := h
      rw [e1] at h'
      cases h'
      have hi' : i < ({ s with d := s.d.set j (.val (.list ds)) } : DSt).d.length := by simpa using hi
      exact ⟨_, put_stp S' (st.trans st') hi' (by intro _ _ z; cases z), put_ok S' hi' ⟨_, rfl, rp⟩ (by intro _ _ z; cases z), st'.ex⟩
    · rename_i d q
      cases e
      have h' : σ[j]? = some (some v) := h
      obtain ⟨u, e1, hd⟩ := S.slot j _ q
      rw [h'] at e1
      cases e1
      exact ⟨G, put_stp S st hi (by intro _ _ z; cases z), put_ok S hi ⟨v, rfl, hd⟩ (by intro _ _ z; cases z), Ex.refl G⟩
    · cases e
end
/-! ### flows -/
def fseq (f g : DSt → Flow) : DSt → Flow := fun s => match f s with
  | .next s' => g s'
  | x => x
def fnext : DSt → Flow := fun s => .next s
section
variable {K : PySem.W.Frag} {cl : String → Addr} {W : WX} {G H G' H' : Hp} {s s' : DSt} {σ σ' : L2.St}
theorem fout_shift {fl : Flow} {D : Ends} (st : Stp G s σ H G' s' σ' H') (h : FOut K cl W G s σ H fl D) : FOut K cl W G' s' σ' H' fl D := by
  cases fl with
  | next s2 => exact fun G2 σ2 H2 st2 S2 => h G2 σ2 H2 (st.trans st2) S2
  | brk s2 => exact fun G2 σ2 H2 st2 S2 => h G2 σ2 H2 (st.trans st2) S2
  | cnt s2 => exact fun G2 σ2 H2 st2 S2 => h G2 σ2 H2 (st.trans st2) S2
  | ret r s2 => exact fun v G2 σ2 H2 st2 S2 rr => h v G2 σ2 H2 (st.trans st2) S2 (rr.less st.dom)
  | err x s2 => exact fun c d G2 σ2 H2 st2 S2 xr => h c d G2 σ2 H2 (st.trans st2) S2 xr
  | stuck => exact h
def onRes {α : Type} (r : Res α) (g : α → DSt → Flow) : Flow := match r with
  | .ok a s => g a s
  | .err x s => .err x s
  | .stuck => .stuck
theorem fout_res {α : Type} {r : Res α} {g : α → DSt → Flow} {D : Ends} (h : FOut K cl W G s σ H (onRes r g) D) : Out K cl W G s σ H r fun a G1 s1 H1 => FOut K cl W G s σ H (g a s1) D := by
  cases r with
  | ok a s1 => exact fun G1 H1 st S1 => h
  | err x s1 => exact fun c d G1 H1 st S1 xr => h c d G1 σ H1 st S1 xr
  | stuck => exact h
end
section
variable {X : Cx} {cl : String → Addr} {W : WX} {e a b c : Expr} {es : List Expr} {f g : M R} {fs : M (List R)} {pos : Pos} {st : Stmt} {rest : List Stmt} {p q : DSt → Flow}
theorem ss_nil : DSs X cl W [] fnext := pss_imp pss_nil fun D σ H ⟨G, s, S, h⟩ => h G σ H Stp.refl S
theorem ss_cons (h1 : DS X cl W st p) (h2 : DSs X cl W rest q) : DSs X cl W (st :: rest) (fseq p q) := by
  refine pss_imp (pss_cons h1 h2) fun D σ H ⟨G, s, S, h⟩ => ⟨G, s, S, ?_⟩
  unfold fseq at h
  cases z : p s with
  | next s' =>
    rw [z] at h
    exact fun G1 σ1 H1 st1 S1 => ⟨G1, s', S1, fout_shift st1 h⟩
  | brk s' => rw [z] at h; exact h
  | cnt s' => rw [z] at h; exact h
  | ret r s' => rw [z] at h; exact h
  | err x s' => rw [z] at h; exact h
  | stuck => rw [z] at h; exact h
theorem ss_one (h1 : DS X cl W st p) : DSs X cl W [st] p := pss_one h1
def fbrk : DSt → Flow := fun s => .brk s
def fcnt : DSt → Flow := fun s => .cnt s
def fnever : DSt → Flow := fun _ => .stuck
def fDrop (f : M R) : DSt → Flow := fun s => onRes (f s) fun _ s' => .next s'
theorem s_expr (h : DE X cl W e f) (hs : swapsWith e none pos.line X.env = pure false := by rfl) : DS X cl W (.Expr e pos) (fDrop f) := by
  refine ps_imp (ps_expr h hs) fun D σ H ⟨G, s, S, h⟩ => ⟨G, s, S, out_mono (fout_res h) fun r G1 s1 H1 st1 S1 k v rr => ?_⟩
  exact k G1 σ H1 st1 S1
def fRet (f : M R) : DSt → Flow := fun s => onRes (f s) fun r s' => .ret r s'
theorem s_ret (h : DE X cl W e f) : DS X cl W (.Return (some e) pos) (fRet f) := by
  refine ps_imp (ps_ret h) fun D σ H ⟨G, s, S, h⟩ => ⟨G, s, S, out_mono (fout_res h) fun r G1 s1 H1 st1 S1 k v rr => ?_⟩
  exact k v G1 σ H1 st1 S1 rr
def fRetN : DSt → Flow := fun s => .ret (.val .none) s
def fIfS (c : M Bool) (p q : DSt → Flow) : DSt → Flow := fun s => onRes (c s) fun b s' => if b then p s' else q s'
theorem s_if {c : Expr} {t : M Bool} {as bs : List Stmt} (hc : DT X cl W c t) (ha : DSs X cl W as p) (hb : DSs X cl W bs q) : DS X cl W (.If c as bs pos) (fIfS t p q) := by
  refine ps_imp (ps_if hc ha hb) fun D σ H ⟨G, s, S, h⟩ => ⟨G, s, S, out_mono (fout_res h) fun b G1 s1 H1 st1 S1 k => ?_⟩
  cases b with
  | true => exact ⟨G1, s1, S1, fout_shift st1 k⟩
  | false => exact ⟨G1, s1, S1, fout_shift st1 k⟩
def fSet (i : Nat) (f : M R) : DSt → Flow := fun s => onRes (f s) fun r s' => if i < s'.d.length then match store i r s' with
  | some s2 => .next s2
  | none => .stuck
  else .stuck
theorem set_reads {i : Nat} {D : Ends} {σ : L2.St} {H : Hp} {K : PySem.W.Frag} (q : tS K cl W (fSet i f) D σ H) : tAsg (tD K cl W f) (gName i) D σ H := by
  obtain ⟨G, s, S, h⟩ := q
  refine ⟨G, s, S, out_mono (fout_res h) fun r G1 s1 H1 st1 S1 k v rr => ?_⟩
  split at k
  · rename_i hi
    split at k
    · rename_i s2 e
      obtain ⟨G2, st2, S2, _⟩ := store_good S1 st1 rr hi e
      exact k G2 _ H1 st2 S2
    · exact k.elim
  · exact k.elim
theorem s_set {i : Nat} {x : Str} {pos' : Pos} (hN : X.N.Nodup) (hi : X.N[i]? = some x) (hx : Loc X.env.scope x) (he : DE X cl W e f) (hs : swapsWith e (some (.Name x pos')) pos.line X.env = pure false := by rfl) (hf : X.fn x = true ∨ X.env.scope.names.lookup x = some .local := by first | exact .inl rfl | exact .inr rfl | assumption) :
    DS X cl W (.Assign [.Name x pos'] e pos) (fSet i f) := ps_imp (ps_set hN hi hx he hs hf) fun D σ H q => set_reads q
end
end DL

/-! DL7: targets, what is walked, loops, comprehensions -/
noncomputable section
namespace DL
open PySem L2 PyProof.Rows
open Evl (Ex)
/-! ### targets -/
abbrev Bd := PyData → DSt → Option DSt
def GOk (K : PySem.W.Frag) (g : TG) (b : Bd) (js : List Nat) : Prop := ∀ (x : V) (d : PyData) (G : Hp) (s : DSt) (σ : L2.St) (H : Hp) (s' : DSt) (Q : L2.St → Hp → Prop), SA K G s σ H → Rp K G x d → b d s = some s' →
  (∀ σ', σ'.length = σ.length → (∀ i, i ∉ js → σ'[i]? = σ[i]?) → (∀ i : Nat, i ∉ js → s'.d[i]? = s.d[i]?) → s'.w = s.w → Stp G s σ H G s' σ' H → SA K G s' σ' H → Q σ' H) → g x σ H Q
def bName (i : Nat) : Bd := fun d s => if i < s.d.length then some (putS i (.val d) s) else none
theorem g_name {K : PySem.W.Frag} (i : Nat) : GOk K (gName i) (bName i) [i] := by
  intro x d G s σ H s' Q S rp e k
  unfold bName at e
  split at e
  · rename_i hi
    cases e
    refine k _ (by simp) (fun j hj => ?_) (fun j hj => ?_) rfl (put_stp S Stp.refl hi (by intro _ _ z; cases z)) (put_ok S hi ⟨x, rfl, rp⟩ (by intro _ _ z; cases z))
    · rw [List.getElem?_set_ne (fun z => hj (by simp [z]))]
    · simp only [putS]
      rw [List.getElem?_set_ne (fun z => hj (by simp [z]))]
  · cases e
abbrev Bds := List PyData → DSt → Option DSt
def GsOk (K : PySem.W.Frag) (g : TGs) (b : Bds) (js : List Nat) : Prop := ∀ (xs : List V) (ds : List PyData) (G : Hp) (s : DSt) (σ : L2.St) (H : Hp) (s' : DSt) (Q : L2.St → Hp → Prop), SA K G s σ H → RpAll K G xs ds → b ds s = some s' →
  (∀ σ', σ'.length = σ.length → (∀ i, i ∉ js → σ'[i]? = σ[i]?) → (∀ i : Nat, i ∉ js → s'.d[i]? = s.d[i]?) → s'.w = s.w → Stp G s σ H G s' σ' H → SA K G s' σ' H → Q σ' H) → g xs σ H Q
def bNil : Bds := fun ds s => match ds with
  | [] => some s
  | _ => none
def bCons (b : Bd) (bs : Bds) : Bds := fun ds s => match ds with
  | d :: r => match b d s with
    | some s' => bs r s'
    | none => none
  | [] => none
theorem g_nil {K : PySem.W.Frag} : GsOk K gNil bNil [] := by
  intro xs ds G s σ H s' Q S rp e k
  unfold bNil at e
  split at e
  · cases e
    cases rp
    exact ⟨rfl, k σ rfl (fun _ _ => rfl) (fun _ _ => rfl) rfl Stp.refl S⟩
  · cases e
theorem g_cons {K : PySem.W.Frag} {g : TG} {gs : TGs} {b : Bd} {bs : Bds} {js ks : List Nat} (h1 : GOk K g b js) (h2 : GsOk K gs bs ks) : GsOk K (gCons g gs) (bCons b bs) (js ++ ks) := by
  intro xs ds G s σ H s' Q S rp e k
  unfold bCons at e
  split at e
  · rename_i d r
    split at e
    · rename_i s1 e1
      cases rp with
      | cons rp1 rp2 =>
        refine ⟨_, _, rfl, h1 _ d G s σ H s1 _ S rp1 e1 fun σ1 l1 n1 m1 w1 st1 S1 => ?_⟩
        refine h2 _ r G s1 σ1 H s' _ S1 rp2 e fun σ2 l2 n2 m2 w2 st2 S2 => ?_
        exact k σ2 (l2.trans l1) (fun i hi => (n2 i fun z => hi (List.mem_append_right _ z)).trans (n1 i fun z => hi (List.mem_append_left _ z))) (fun i hi => (m2 i fun z => hi (List.mem_append_right _ z)).trans (m1 i fun z => hi (List.mem_append_left _ z))) (w2.trans w1) (st1.trans st2) S2
    · cases e
  · cases e
def bTup (n : Nat) (bs : Bds) : Bd := fun d s => match d with
  | .tuple ds => if ds.length = n then bs ds s else none
  | _ => none
theorem g_tup {K : PySem.W.Frag} {n : Nat} {gs : TGs} {bs : Bds} {js : List Nat} (h : GsOk K gs bs js) : GOk K (gTup K n gs) (bTup n bs) js := by
  intro x d G s σ H s' Q S rp e k
  unfold bTup at e
  split at e
  · split at e
    · rename_i ds hl
      cases rp with
      | tup hs ha => exact ⟨_, _, rfl, .of (S.gh _ _ hs), by rw [dps_len ha]; exact hl, h _ ds G s σ H s' Q S ha e k⟩
    · cases e
  · cases e
def bUnl (n : Nat) (bs : Bds) : Bd := fun d s => match d with
  | .list ds => if ds.length = n then bs ds s else none
  | _ => none
theorem g_unl {K : PySem.W.Frag} {n : Nat} {gs : TGs} {bs : Bds} {js : List Nat} (h : GsOk K gs bs js) : GOk K (gUnl K n gs) (bUnl n bs) js := by
  intro x d G s σ H s' Q S rp e k
  unfold bUnl at e
  split at e
  · split at e
    · rename_i ds hl
      cases rp with
      | lst hs ha => exact ⟨_, _, rfl, .of (S.gh _ _ hs), by rw [dps_len ha]; exact hl, h _ ds G s σ H s' Q S ha e k⟩
    · cases e
  · cases e

/-! ### what is walked -/
def ItOk (K : PySem.W.Frag) (J : It) (ds : List PyData) (G : Hp) : Prop := ∀ (G' : Hp) (s' : DSt) (σ' : L2.St) (H' : Hp), Ex G G' → SA K G' s' σ' H' → ∀ i,
  (∀ d, ds[i]? = some d → J.go i H' ∧ ∀ x H2, J.yld i H' x H2 → ∃ G2, Stp G' s' σ' H' G2 s' σ' H2 ∧ SA K G2 s' σ' H2 ∧ Rp K G2 x d) ∧ (ds.length ≤ i → J.stop i H')
def tI (K : PySem.W.Frag) (cl : String → Addr) (W : WX) (f : M (List PyData)) : TI := fun σ H R => ∃ G s, SA K G s σ H ∧ Out K cl W G s σ H (f s) fun ds G' s' H' => ∀ J, ItOk K J ds G' → R J H'
section
variable {X : Cx} {cl : String → Addr} {W : WX} {e a b c tg iter : Expr} {es : List Expr} {f g : M R} {fs : M (List R)} {fi : M (List PyData)} {pos : Pos}
abbrev DI (X : Cx) (cl : String → Addr) (W : WX) (tg e : Expr) (f : M (List PyData)) : Prop := PI X tg e (tI X.K cl W f)
theorem pi_imp {t t' : TI} (h : PI X tg e t) (i : ∀ σ H R, t' σ H R → t σ H R) : PI X tg e t' := ⟨fun pins s σ H R I q => h.run pins s σ H R I (i σ H R q)⟩
theorem it_list {K : PySem.W.Frag} {G : Hp} {a : Addr} {xs : List V} {ds : List PyData} (h : G a = some (.lst xs)) (hd : RpAll K G xs ds) (uq : ∀ (G' : Hp) (s' : DSt) (σ' : L2.St) (H' : Hp), Ex G G' → SA K G' s' σ' H' → H' a = some (.lst xs)) : ItOk K (Itl K a) ds G := by
  intro G' s' σ' H' ex S i
  have hH := uq G' s' σ' H' ex S
  refine ⟨fun d e => ?_, fun hl => ⟨xs, .of hH, by rw [dps_len hd]; exact hl⟩⟩
  have hi : i < xs.length := by rw [dps_len hd]; exact (List.getElem?_eq_some_iff.mp e).1
  refine ⟨⟨xs, xs[i], .of hH, by simp [hi]⟩, fun x H2 ⟨e2, y⟩ => ?_⟩
  subst e2
  obtain ⟨d', e', r⟩ := dps_get hd (y xs (.of hH))
  rw [e] at e'
  cases e'
  exact ⟨G', Stp.refl, S, dp_mono ex _ _ r⟩
theorem it_tup {K : PySem.W.Frag} {G : Hp} {a : Addr} {xs : List V} {ds : List PyData} (h : SqT K G a xs) (hd : RpAll K G xs ds) : ItOk K (Itt K a) ds G := by
  intro G' s' σ' H' ex S i
  have hH := Evl.ex_t S.gh (Evl.ex_t ex h)
  refine ⟨fun d e => ?_, fun hl => ⟨xs, hH, by rw [dps_len hd]; exact hl⟩⟩
  have hi : i < xs.length := by rw [dps_len hd]; exact (List.getElem?_eq_some_iff.mp e).1
  refine ⟨⟨xs, xs[i], hH, by simp [hi]⟩, fun x H2 ⟨e2, y⟩ => ?_⟩
  subst e2
  obtain ⟨d', e', r⟩ := dps_get hd (y xs hH)
  rw [e] at e'
  cases e'
  exact ⟨G', Stp.refl, S, dp_mono ex _ _ r⟩
def iSeq (K : PySem.W.Frag) (tl : TE) : TI := fun σ H R => tl σ H fun x H1 => (∃ a, x = .ref a ∧ (∃ xs, SqL K H1 a xs) ∧ R (Itl K a) H1) ∨ ∃ a, x = .ref a ∧ (∃ xs, SqT K H1 a xs) ∧ R (Itt K a) H1
theorem pi_seq {l : Expr} {tl : TE} (hl : PE X l tl) : PI X tg l (iSeq X.K tl) := by
  refine ⟨fun pins s σ H R I h => ?_⟩
  refine thn (hl.run pins s σ H _ I h) fun v s1 ⟨x, H1, I1, r1, q1⟩ => ?_
  rcases q1 with ⟨a, e, ⟨xs, hq⟩, q⟩ | ⟨a, e, ⟨xs, hq⟩, q⟩
  · subst e
    cases r1
    obtain ⟨its, rv, p, hz⟩ := I1.list hq
    refine wpAny_pyIter_list p.isList ?_
    refine ⟨s1.heap.objs.size, [s1.heap.objs.size], _, _, H1, rfl, I1.kept (t' := s1.toks) fun b o e => Heap.get?_push_of_some _ e, turn_list a _, ⟨_, Heap.get?_push_size _ rfl, rfl, rfl⟩, fun b hb => ?_, q⟩
    have e : b = s1.heap.objs.size := by simpa using hb
    subst e
    exact I1.fpOk (Nat.le_refl _) (I1.hok.fresh (Nat.le_refl _))
  · subst e
    cases r1
    obtain ⟨its, rv, p, hz⟩ := I1.tuple hq
    refine wpAny_pyIter_tuple (show s1.heap.IsTuple a its.toArray from p) ?_
    refine ⟨s1.heap.objs.size, [s1.heap.objs.size], _, _, H1, rfl, I1.kept (t' := s1.toks) fun b o e => Heap.get?_push_of_some _ e, turn_tuple a _, ⟨_, Heap.get?_push_size _ rfl, rfl, rfl⟩, fun b hb => ?_, q⟩
    have e : b = s1.heap.objs.size := by simpa using hb
    subst e
    exact I1.fpOk (Nat.le_refl _) (I1.hok.fresh (Nat.le_refl _))
def fLstI (f : M R) : M (List PyData) := bnd f fun r => bnd (fEsc r) fun r' s => match r' with
  | .val (.list ds) => .ok ds s
  | .val (.tuple ds) => .ok ds s
  | _ => .stuck
theorem i_list (h : DE X cl W e f) : DI X cl W tg e (fLstI f) := by
  refine pi_imp (pi_seq h) fun σ H R ⟨G, s, S, q⟩ => ?_
  refine ⟨G, s, S, out_mono (out_esc q) fun r G1 s1 H1 st1 S1 k v rr => ?_⟩
  obtain ⟨G2, s2, r2, st2, S2, ar, ex, k2⟩ := k v rr
  split at k2
  · rename_i ds
    cases (show Rp X.K G2 v (.list ds) from ar) with
    | lst hs ha => exact .inl ⟨_, rfl, ⟨_, .of (S2.gh _ _ hs)⟩, k2 G2 H1 Stp.refl S2 _ (it_list hs ha fun G' s' σ' H' ex' S' => S'.gh _ _ (ex' _ _ hs))⟩
  · rename_i ds
    cases (show Rp X.K G2 v (.tuple ds) from ar) with
    | tup hs ha => exact .inr ⟨_, rfl, ⟨_, .of (S2.gh _ _ hs)⟩, k2 G2 H1 Stp.refl S2 _ (it_tup (.of hs) ha)⟩
  · exact k2.elim
def fTupI (f : M R) : M (List PyData) := bnd f fun r s => match look r s with
  | some (.tuple ds) => .ok ds s
  | _ => .stuck
def rangeD (lo : Int) (n : Nat) : List PyData := (List.range n).map fun (k : Nat) => PyData.int (lo + (k : Int))
theorem it_range {K : PySem.W.Frag} {G : Hp} {lo : Int} {n : Nat} : ItOk K (Itr lo n) (rangeD lo n) G := by
  intro G' s' σ' H' ex S i
  refine ⟨fun d e => ?_, fun hl => show n ≤ i by simpa [rangeD] using hl⟩
  have hi : i < n := by have := (List.getElem?_eq_some_iff.mp e).1; simpa [rangeD] using this
  have e2 : d = .int (lo + (i : Int)) := by simp [rangeD, hi] at e; exact e.symm
  subst e2
  exact ⟨hi, fun x H2 ⟨e1, e3⟩ => by subst e1 e3; exact ⟨G', Stp.refl, S, .int _⟩⟩
def fRng1 (fs : M (List R)) : M (List PyData) := bnd fs fun rs s => match rs with
  | [r] => match look r s with
    | some (.int j) => if inB j then .ok (rangeD 0 j.toNat) s else .stuck
    | _ => .stuck
  | _ => .stuck
theorem i_range1 {p pos : Pos} (hg : Gl X "range") (hm : X.mg "range" = none) (ha : DA X cl W [a] fs) (hs : starEach [a] X.env = [(false, eval a X.env)] := by rfl) : DI X cl W tg (.Call (.Name "range" p) [a] [] pos) (fRng1 fs) := by
  refine pi_imp (pi_range1 hg hm ha hs) fun σ H R ⟨G, s, S, q⟩ => ?_
  refine ⟨G, s, S, out_mono (out_bind q) fun rs G1 s1 H1 st1 S1 k vs rr => ?_⟩
  split at k
  · rename_i r
    split at k
    · rename_i j e
      split at k
      · rename_i hb
        cases rr with
        | cons r1 r2 =>
          cases r2
          obtain rfl := dq_int (look_q S1 r1 e)
          exact ⟨j, rfl, hb.1, hb.2, k G1 H1 Stp.refl S1 _ it_range⟩
      · exact k.elim
    · exact k.elim
  · exact k.elim
def fRng2 (fs : M (List R)) : M (List PyData) := bnd fs fun rs s => match rs with
  | [r, r2] => match look r s, look r2 s with
    | some (.int i), some (.int j) => if inB i ∧ inB j then .ok (rangeD i (j - i).toNat) s else .stuck
    | _, _ => .stuck
  | _ => .stuck
theorem i_range2 {p pos : Pos} (hg : Gl X "range") (hm : X.mg "range" = none) (ha : DA X cl W [a, b] fs) (hs : starEach [a, b] X.env = [(false, eval a X.env), (false, eval b X.env)] := by rfl) (hs2 : starEach [b] X.env = [(false, eval b X.env)] := by rfl) :
    DI X cl W tg (.Call (.Name "range" p) [a, b] [] pos) (fRng2 fs) := by
  refine pi_imp (pi_range2 hg hm ha hs hs2) fun σ H R ⟨G, s, S, q⟩ => ?_
  refine ⟨G, s, S, out_mono (out_bind q) fun rs G1 s1 H1 st1 S1 k vs rr => ?_⟩
  split at k
  · split at k
    · rename_i i j e1 e2
      split at k
      · rename_i hb
        cases rr with
        | cons r1 r2 =>
          cases r2 with
          | cons r2 r3 =>
            cases r3
            obtain rfl := dq_int (look_q S1 r1 e1)
            obtain rfl := dq_int (look_q S1 r2 e2)
            exact ⟨i, j, rfl, ⟨hb.1.1, hb.1.2, hb.2.1, hb.2.2⟩, k G1 H1 Stp.refl S1 _ it_range⟩
      · exact k.elim
    · exact k.elim
  · exact k.elim
def enumD (ds : List PyData) : List PyData := ds.zipIdx.map fun p => .tuple [.int (p.2 : Int), p.1]
theorem it_enum {K : PySem.W.Frag} {G : Hp} {a : Addr} {xs : List V} {ds : List PyData} (h : G a = some (.lst xs)) (hd : RpAll K G xs ds) : ItOk K (Ite K a) (enumD ds) G := by
  intro G' s' σ' H' ex S i
  have hH : H' a = some (.lst xs) := S.gh _ _ (ex _ _ h)
  refine ⟨fun d e => ?_, fun hl => ⟨xs, .of hH, by rw [dps_len hd]; simpa [enumD] using hl⟩⟩
  have hi : i < ds.length := by have := (List.getElem?_eq_some_iff.mp e).1; simpa [enumD] using this
  have hx : i < xs.length := by rw [dps_len hd]; exact hi
  have e2 : d = .tuple [.int (i : Int), ds[i]] := by
    simp [enumD, hi] at e
    exact e.symm
  subst e2
  refine ⟨⟨xs, xs[i], .of hH, by simp [hx]⟩, fun x H2 ⟨T, y, e3, hT, e4, hy⟩ => ?_⟩
  subst e3 e4
  obtain ⟨d', e', r⟩ := dps_get hd (hy xs (.of hH))
  have e5 : d' = ds[i] := by rw [List.getElem?_eq_getElem hi] at e'; exact (Option.some.inj e').symm
  subst e5
  obtain ⟨st, S2⟩ := new_known (.tup [.int (i : Nat), y]) S hT
  exact ⟨_, st, S2, .tup upd_same (.cons (.int _) (.cons (dp_mono (ex.trans st.ex) _ _ r) .nil))⟩
def fEnum (fs : M (List R)) : M (List PyData) := bnd fs fun rs s => match rs with
  | [.val (.list ds)] => .ok (enumD ds) s
  | _ => .stuck
theorem i_enum {p pos tpos : Pos} {elts : List Expr} {kk : Nat} (hg : Gl X "enumerate") (hm : X.mg "enumerate" = none) (ha : DAe X cl W [e] fs) (hs : starEach [e] X.env = [(false, eval e X.env)] := by rfl) :
    DI X cl W (.Tuple elts kk tpos) (.Call (.Name "enumerate" p) [e] [] pos) (fEnum fs) := by
  refine pi_imp (pi_enum hg hm ha hs) fun σ H R ⟨G, s, S, q⟩ => ?_
  refine ⟨G, s, S, out_mono (out_bind q) fun rs G1 s1 H1 st1 S1 k vs rr => ?_⟩
  split at k
  · rename_i ds
    cases rr with
    | cons r1 r2 =>
      cases r2
      cases (show Rp X.K G1 _ (.list ds) from r1) with
      | lst h ha => exact ⟨_, _, rfl, .of (S1.gh _ _ h), k G1 H1 Stp.refl S1 _ (it_enum h ha)⟩
  · exact k.elim
def zipD (ds es : List PyData) : List PyData := (ds.zip es).map fun p => .tuple [p.1, p.2]
theorem it_zip {K : PySem.W.Frag} {G : Hp} {a b : Addr} {xs ys : List V} {ds es : List PyData} (h : G a = some (.lst xs)) (hd : RpAll K G xs ds) (h2 : G b = some (.lst ys)) (hd2 : RpAll K G ys es) : ItOk K (Itz K a b) (zipD ds es) G := by
  intro G' s' σ' H' ex S i
  have hH : H' a = some (.lst xs) := S.gh _ _ (ex _ _ h)
  have hH2 : H' b = some (.lst ys) := S.gh _ _ (ex _ _ h2)
  refine ⟨fun d e => ?_, fun hl => ⟨xs, ys, .of hH, .of hH2, ?_⟩⟩
  · have hi : i < ds.length ∧ i < es.length := by have := (List.getElem?_eq_some_iff.mp e).1; simp [zipD] at this; omega
    have hx : i < xs.length := by rw [dps_len hd]; exact hi.1
    have hy : i < ys.length := by rw [dps_len hd2]; exact hi.2
    have e2 : d = .tuple [ds[i], es[i]] := by
      have hz : i < (ds.zip es).length := by simp; omega
      simp only [zipD, List.getElem?_map, List.getElem?_eq_getElem hz, Option.map_some, List.getElem_zip] at e
      exact (Option.some.inj e).symm
    subst e2
    refine ⟨⟨xs, ys, xs[i], ys[i], .of hH, .of hH2, by simp [hx], by simp [hy]⟩, fun x H2 ⟨T, y, z, e3, hT, e4, q1, q2⟩ => ?_⟩
    subst e3 e4
    obtain ⟨d', e', r⟩ := dps_get hd (q1 xs (.of hH))
    obtain ⟨d2, e5, r2⟩ := dps_get hd2 (q2 ys (.of hH2))
    have e6 : d' = ds[i] := by rw [List.getElem?_eq_getElem hi.1] at e'; exact (Option.some.inj e').symm
    have e7 : d2 = es[i] := by rw [List.getElem?_eq_getElem hi.2] at e5; exact (Option.some.inj e5).symm
    subst e6 e7
    obtain ⟨st, S2⟩ := new_known (.tup [y, z]) S hT
    exact ⟨_, st, S2, .tup upd_same (.cons (dp_mono (ex.trans st.ex) _ _ r) (.cons (dp_mono (ex.trans st.ex) _ _ r2) .nil))⟩
  · rw [dps_len hd, dps_len hd2]
    simp [zipD] at hl
    omega
def fZip (fs : M (List R)) : M (List PyData) := bnd fs fun rs s => match rs with
  | [.val (.list ds), .val (.list es)] => .ok (zipD ds es) s
  | _ => .stuck
theorem i_zip {e2 : Expr} {p pos tpos : Pos} {elts : List Expr} {kk : Nat} (hg : Gl X "zip") (hm : X.mg "zip" = none) (ha : DAe X cl W [e, e2] fs) (h : ∀ {ta : TA}, PA X [e, e2] ta → PI X (.Tuple elts kk tpos) (.Call (.Name "zip" p) [e, e2] [] pos) (iZip X.K ta) := by intro ta h; exact pi_zip (by rfl) (by assumption) h) :
    DI X cl W (.Tuple elts kk tpos) (.Call (.Name "zip" p) [e, e2] [] pos) (fZip fs) := by
  refine pi_imp (h ha) fun σ H R ⟨G, s, S, q⟩ => ?_
  refine ⟨G, s, S, out_mono (out_bind q) fun rs G1 s1 H1 st1 S1 k vs rr => ?_⟩
  split at k
  · rename_i ds es
    cases rr with
    | cons r1 r2 =>
      cases r2 with
      | cons r2 r3 =>
        cases r3
        cases (show Rp X.K G1 _ (.list ds) from r1) with
        | lst h ha =>
          cases (show Rp X.K G1 _ (.list es) from r2) with
          | lst h' ha' => exact ⟨_, _, _, _, rfl, .of (S1.gh _ _ h), .of (S1.gh _ _ h'), k G1 H1 Stp.refl S1 _ (it_zip h ha h' ha')⟩
  · exact k.elim
end
end DL

/-! DL8: loops, comprehensions -/
noncomputable section
namespace DL
open PySem L2 PyProof.Rows
open Evl (Ex)
def loopF (b : Bd) (p : DSt → Flow) : List PyData → DSt → Flow
  | [], s => .next s
  | d :: ds, s => match b d s with
    | none => .stuck
    | some s1 => match p s1 with
      | .next s2 => loopF b p ds s2
      | .cnt s2 => loopF b p ds s2
      | .brk s2 => .next s2
      | .ret r s2 => .ret r s2
      | .err x s2 => .err x s2
      | .stuck => .stuck
def fFor (fi : M (List PyData)) (b : Bd) (p : DSt → Flow) : DSt → Flow := fun s => onRes (fi s) fun ds s' => loopF b p ds s'
def whileF (c : M Bool) (p : DSt → Flow) : Nat → DSt → Flow
  | 0, _ => .stuck
  | n + 1, s => onRes (c s) fun t s1 => if t then match p s1 with
      | .next s2 => whileF c p n s2
      | .cnt s2 => whileF c p n s2
      | .brk s2 => .next s2
      | .ret r s2 => .ret r s2
      | .err x s2 => .err x s2
      | .stuck => .stuck
    else .next s1
section
variable {X : Cx} {cl : String → Addr} {W : WX} {e a b c tg iter : Expr} {es : List Expr} {f g : M R} {fs : M (List R)} {fi : M (List PyData)} {pos : Pos} {p q : DSt → Flow}
theorem s_for {body : List Stmt} {gg : TG} {bd : Bd} {js : List Nat} (hp : PassesOwn (model X.prog X.w) X.A X.env X.xe) (hc : X.calm = true) (hi : DI X cl W tg iter fi) (hg : PG X tg gg) (ho : GOk X.K gg bd js) (hb : DSs X cl W body p)
    (hs : ∀ x, foldedSetIterable iter X.env x = pure x := by intro _; rfl) : DS X cl W (.For tg iter body [] pos) (fFor fi bd p) := by
  refine ps_imp (ps_for hp hc hi hg hb hs) fun D σ H ⟨G, s, S, h⟩ => ⟨G, s, S, out_mono (fout_res h) fun ds G1 s1 H1 st1 S1 k J hJ => ?_⟩
  have k := fout_shift st1 k
  refine ⟨fun i m σ2 H2 => ∃ G2 s2, SA X.K G2 s2 σ2 H2 ∧ Ex G1 G2 ∧ m = ds.length - i ∧ i ≤ ds.length ∧ FOut X.K cl W G2 s2 σ2 H2 (loopF bd p (ds.drop i) s2) D, ⟨ds.length, G1, s1, S1, Ex.refl G1, by simp, Nat.zero_le _, by simpa using k⟩, ?_⟩
  rintro i m σ2 H2 ⟨G2, s2, S2, ex2, rfl, hi, k2⟩
  obtain ⟨j1, j2⟩ := hJ G2 s2 σ2 H2 ex2 S2 i
  by_cases hl : i < ds.length
  · obtain ⟨go, yl⟩ := j1 ds[i] (List.getElem?_eq_getElem hl)
    rw [List.drop_eq_getElem_cons hl] at k2
    refine .inr ⟨go, fun σ3 H3 => ∃ G3 s3, SA X.K G3 s3 σ3 H3 ∧ Ex G1 G3 ∧ FOut X.K cl W G3 s3 σ3 H3 (loopF bd p (ds.drop (i + 1)) s3) D, fun σ3 H3 ⟨G3, s3, S3, ex3, k3⟩ => ⟨ds.length - (i + 1), by omega, G3, s3, S3, ex3, rfl, hl, k3⟩, fun x H3 y => ?_⟩
    obtain ⟨G3, st3, S3, rp⟩ := yl x H3 y
    unfold loopF at k2
    cases q : bd ds[i] s2 with
    | none => rw [q] at k2; exact k2.elim
    | some s4 =>
      rw [q] at k2
      refine ho x ds[i] G3 s2 σ2 H3 s4 _ S3 rp q fun σ4 l4 n4 m4 w4 st4 S4 => ⟨G3, s4, S4, ?_⟩
      have st34 := st3.trans st4
      have k2 := fout_shift st34 k2
      have ex4 := ex2.trans st34.ex
      dsimp only at k2 ⊢
      cases z : p s4 with
      | next s5 => rw [z] at k2; exact fun G5 σ5 H5 st5 S5 => ⟨G5, s5, S5, ex4.trans st5.ex, fout_shift st5 k2⟩
      | cnt s5 => rw [z] at k2; exact fun G5 σ5 H5 st5 S5 => ⟨G5, s5, S5, ex4.trans st5.ex, fout_shift st5 k2⟩
      | brk s5 => rw [z] at k2; exact fun G5 σ5 H5 st5 S5 => k2 G5 σ5 H5 st5 S5
      | ret r s5 => rw [z] at k2; exact k2
      | err x s5 => rw [z] at k2; exact k2
      | stuck => rw [z] at k2; exact k2
  · have e : i = ds.length := by omega
    subst e
    rw [List.drop_length] at k2
    exact .inl ⟨j2 (Nat.le_refl _), k2 G2 σ2 H2 Stp.refl S2⟩
theorem s_while {body : List Stmt} {t : M Bool} (n : Nat) (hp : PassesOwn (model X.prog X.w) X.A X.env X.xe) (hc : DT X cl W c t) (hb : DSs X cl W body p) : DS X cl W (.While c body [] pos) (whileF t p n) := by
  refine ps_imp (ps_while hp hc hb) fun D σ H ⟨G, s, S, h⟩ => ?_
  refine ⟨fun m σ2 H2 => ∃ G2 s2, SA X.K G2 s2 σ2 H2 ∧ FOut X.K cl W G2 s2 σ2 H2 (whileF t p m s2) D, ⟨n, G, s, S, h⟩, ?_⟩
  rintro m σ2 H2 ⟨G2, s2, S2, k2⟩
  cases m with
  | zero => exact k2.elim
  | succ m =>
    refine ⟨G2, s2, S2, out_mono (fout_res k2) fun b G3 s3 H3 st3 S3 k3 => ?_⟩
    have k3 := fout_shift st3 k3
    cases b with
    | false => exact k3 G3 σ2 H3 Stp.refl S3
    | true =>
      refine ⟨fun σ4 H4 => ∃ G4 s4, SA X.K G4 s4 σ4 H4 ∧ FOut X.K cl W G4 s4 σ4 H4 (whileF t p m s4) D, fun σ4 H4 ⟨G4, s4, S4, k4⟩ => ⟨m, Nat.lt_succ_self _, G4, s4, S4, k4⟩, G3, s3, S3, ?_⟩
      simp only [if_true] at k3
      cases z : p s3 with
      | next s5 => rw [z] at k3; exact fun G5 σ5 H5 st5 S5 => ⟨G5, s5, S5, fout_shift st5 k3⟩
      | cnt s5 => rw [z] at k3; exact fun G5 σ5 H5 st5 S5 => ⟨G5, s5, S5, fout_shift st5 k3⟩
      | brk s5 => rw [z] at k3; exact fun G5 σ5 H5 st5 S5 => k3 G5 σ5 H5 st5 S5
      | ret r s5 => rw [z] at k3; exact k3
      | err x s5 => rw [z] at k3; exact k3
      | stuck => rw [z] at k3; exact k3
def fAsgB (f : M R) (bd : Bd) : DSt → Flow := fun s => onRes (bnd f fEsc s) fun r s' => match r with
  | .val d => match bd d s' with
    | some s2 => .next s2
    | none => .stuck
  | _ => .stuck
theorem out_esc1 {K : PySem.W.Frag} {G : Hp} {s : DSt} {σ : L2.St} {H : Hp} {f : Res R} {k : R → Hp → DSt → Hp → Prop} (h : Out K cl W G s σ H (f.bind fEsc) k) :
    Out K cl W G s σ H f fun r G1 s1 H1 => ∀ v, RRel K H G1 s1 σ H1 v r → ∃ G2 s2 r2, Stp G s σ H G2 s2 σ H1 ∧ SA K G2 s2 σ H1 ∧ AR K G2 v r2 ∧ Ex G1 G2 ∧ esc r s1 = some (r2, s2) ∧ k r2 G2 s2 H1 := by
  cases f with
  | ok r s1 =>
    intro G1 H1 st S1 v rr
    have h : Out K cl W G s σ H (fEsc r s1) k := h
    unfold fEsc at h
    cases e : esc r s1 with
    | none => rw [e] at h; exact h.elim
    | some p =>
      obtain ⟨r2, s2⟩ := p
      rw [e] at h
      obtain ⟨G2, st2, S2, ex, ar⟩ := esc_ok S1 st rr e
      exact ⟨G2, s2, r2, st2, S2, ar, ex, rfl, h G2 H1 st2 S2⟩
  | err x s1 => exact h
  | stuck => exact h
theorem s_asgB {gg : TG} {bd : Bd} {js : List Nat} (he : DE X cl W e f) (hg : PG X tg gg) (ho : GOk X.K gg bd js) (hs : swapsWithSole [tg] e pos.line X.env = pure false := by rfl) (hw : swappedStores [tg] e X.env = pure none := by rfl)
    (h1 : (assignEach [tg] X.env).map (·.2) = [assign tg X.env] := by rfl) : DS X cl W (.Assign [tg] e pos) (fAsgB f bd) := by
  refine ps_imp (ps_asg he hg hs hw h1) fun D σ H ⟨G, s, S, h⟩ => ⟨G, s, S, ?_⟩
  have h' : Out X.K cl W G s σ H ((f s).bind fEsc) fun r G2 s2 H1 => ∀ v, AR X.K G2 v r → gg v σ H1 D.nx := by
    have h := fout_res h
    refine out_mono h fun r G1 s1 H1 st1 S1 k v ar => ?_
    split at k
    · rename_i d
      split at k
      · rename_i s2 e
        exact ho v d G1 s1 σ H1 s2 _ S1 ar e fun σ2 _ _ _ _ st2 S2 => k G1 σ2 H1 (st1.trans st2) S2
      · exact k.elim
    · exact k.elim
  refine out_mono (out_esc1 h') fun r G1 s1 H1 st1 S1 k v rr => ?_
  obtain ⟨G2, s2, r2, st2, S2, ar, ex, _, k2⟩ := k v rr
  exact k2 v ar

/-! ### comprehensions -/
def putBack (vs : List Nat) (old new : List Sl) : List Sl := vs.foldl (fun l v => l.set v (old.getD v .no)) new
def blank (vs : List Nat) (d : List Sl) : List Sl := vs.foldl (fun l v => l.set v .no) d
def noOwn (vs : List Nat) (d : List Sl) : Bool := vs.all fun v => match d[v]? with
  | some (.own _) => false
  | _ => true
def nerr {α : Type} (r : Res α) : Res α := match r with
  | .err _ _ => .stuck
  | r => r
def loopC (b : Bd) (ft : M Bool) (fe : M R) (vs : List Nat) : List PyData → List PyData → M (List PyData)
  | [], acc, s => .ok acc s
  | d :: ds, acc, s => if noOwn vs s.d then match b d { s with d := blank vs s.d } with
      | none => .stuck
      | some s1 => (nerr (ft s1)).bind fun t s2 => if t then (nerr (bnd fe fEsc s2)).bind fun r s3 => match r with
            | .val x => loopC b ft fe vs ds (acc ++ [x]) { s3 with d := putBack vs s.d s3.d }
            | _ => .stuck
          else loopC b ft fe vs ds acc { s2 with d := putBack vs s.d s2.d }
    else .stuck
def fLc (fi : M (List PyData)) (b : Bd) (ft : M Bool) (fe : M R) (vs : List Nat) : M R := bnd fi fun ds => bnd (fun s => if leS (ds.length) then loopC b ft fe vs ds [] s else .stuck) fun acc => ret (.new acc)
theorem blank_get (d : List Sl) (i : Nat) : ∀ vs : List Nat, (blank vs d)[i]? = if i ∈ vs then (if i < d.length then some .no else none) else d[i]? := by
  intro vs
  unfold blank
  induction vs generalizing d with
  | nil => simp
  | cons v vs ih =>
    rw [List.foldl_cons, ih]
    by_cases h : i ∈ vs
    · simp [h]
    · by_cases hv : i = v
      · subst hv; simp [h, List.getElem?_set]
      · simp [h, hv, List.getElem?_set_ne (Ne.symm hv)]
theorem blank_len (d : List Sl) : ∀ vs : List Nat, (blank vs d).length = d.length := by
  intro vs
  unfold blank
  induction vs generalizing d with
  | nil => rfl
  | cons v vs ih => rw [List.foldl_cons, ih]; simp
theorem back_len (old new : List Sl) : ∀ vs : List Nat, (putBack vs old new).length = new.length := by
  intro vs
  unfold putBack
  induction vs generalizing new with
  | nil => rfl
  | cons v vs ih => rw [List.foldl_cons, ih]; simp
theorem back_get (old new : List Sl) (i : Nat) : ∀ vs : List Nat, (putBack vs old new)[i]? = if i ∈ vs then (if i < new.length then some (old.getD i .no) else none) else new[i]? := by
  intro vs
  unfold putBack
  induction vs generalizing new with
  | nil => simp
  | cons v vs ih =>
    rw [List.foldl_cons, ih]
    by_cases h : i ∈ vs
    · simp [h]
    · by_cases hv : i = v
      · subst hv; simp [h, List.getElem?_set]
      · simp [h, hv, List.getElem?_set_ne (Ne.symm hv)]
theorem wipe_get (σ : L2.St) (i : Nat) : ∀ vs : List Nat, (wipe σ vs)[i]? = if i ∈ vs then (if i < σ.length then some none else none) else σ[i]? := by
  intro vs
  induction vs with
  | nil => simp [wipe]
  | cons v vs ih =>
    unfold wipe
    by_cases hv : i = v
    · subst hv
      simp [List.getElem?_set, wipe_length]
    · rw [List.getElem?_set_ne (Ne.symm hv), ih]
      simp [hv]
theorem wipe_same {σ σ' : L2.St} {vs : List Nat} (hl : σ'.length = σ.length) (h : ∀ i, i ∉ vs → σ'[i]? = σ[i]?) : wipe σ' vs = wipe σ vs := by
  apply List.ext_getElem?
  intro i
  rw [wipe_get, wipe_get, hl]
  by_cases q : i ∈ vs
  · simp [q]
  · simp [q, h i q]
theorem wipe_wipe (σ : L2.St) (vs : List Nat) : wipe (wipe σ vs) vs = wipe σ vs := wipe_same (wipe_length _ _) fun i hi => by rw [wipe_get]; simp [hi]
section
variable {K : PySem.W.Frag} {G H : Hp} {s : DSt} {σ : L2.St}
theorem own_blank {vs : List Nat} {i : Nat} {a : Addr} (h : OwnAt { s with d := blank vs s.d } (wipe σ vs) i a) : OwnAt s σ i a ∧ i ∉ vs := by
  obtain ⟨⟨ds, e⟩, h⟩ := h
  simp only [blank_get] at e
  by_cases q : i ∈ vs
  · rw [if_pos q] at e; split at e <;> cases e
  · rw [if_neg q] at e
    rw [wipe_get, if_neg q] at h
    exact ⟨⟨⟨ds, e⟩, h⟩, q⟩
theorem sa_blank (vs : List Nat) (S : SA K G s σ H) (hn : noOwn vs s.d = true) : Stp G s σ H G { s with d := blank vs s.d } (wipe σ vs) H ∧ SA K G { s with d := blank vs s.d } (wipe σ vs) H := by
  refine ⟨⟨Ex.refl G, fun a o h _ => ⟨h, rfl⟩, fun a z => .inl ?_, fun a h => h, fun a h => h⟩, ⟨by simp [blank_len, wipe_length, S.len], S.gh, fun i sl h => ?_, fun i j a h1 h2 => S.inj i j a (own_blank h1).1 (own_blank h2).1, fun i a h => S.ownG i a (own_blank h).1, S.pw, fun i a h => S.pne i a (own_blank h).1⟩⟩
  · rcases z with ⟨i, z⟩ | z
    · exact .inl ⟨i, (own_blank z).1⟩
    · exact .inr z
  · simp only [blank_get] at h
    by_cases q : i ∈ vs
    · rw [if_pos q] at h
      split at h
      · cases h; trivial
      · cases h
    · rw [if_neg q] at h
      rw [wipe_get, if_neg q]
      exact S.slot i sl h
theorem sa_back {G2 H2 : Hp} {s2 : DSt} {σ2 : L2.St} {vs : List Nat} (S : SA K G s σ H) (hn : noOwn vs s.d = true) (S2 : SA K G2 s2 σ2 H2) (ex : Ex G G2) (hw : wipe σ2 vs = wipe σ vs) :
    SA K G2 { s2 with d := putBack vs s.d s2.d } σ H2 ∧ ∀ a, Own { s2 with d := putBack vs s.d s2.d } σ a → Own s2 σ2 a := by
  have hl : σ2.length = σ.length := by rw [← wipe_length σ2 vs, hw, wipe_length]
  have hs : ∀ i, i ∉ vs → σ2[i]? = σ[i]? := fun i hi => by
    have := congrArg (fun l : L2.St => l[i]?) hw
    simp only [wipe_get, if_neg hi] at this
    exact this
  have ho : ∀ i a, OwnAt { s2 with d := putBack vs s.d s2.d } σ i a → OwnAt s2 σ2 i a := by
    rintro i a ⟨⟨ds, e⟩, h⟩
    simp only [back_get] at e
    by_cases q : i ∈ vs
    · rw [if_pos q] at e
      split at e
      · have e := Option.some.inj e
        have hn := List.all_eq_true.mp hn i q
        have e2 : s.d[i]? = some (.own ds) := by
          rw [List.getD_eq_getElem?_getD] at e
          cases z : s.d[i]? with
          | none => rw [z] at e; cases e
          | some o => rw [z] at e; simp at e; rw [e]
        rw [e2] at hn
        cases hn
      · cases e
    · rw [if_neg q] at e
      exact ⟨⟨ds, e⟩, by rw [hs i q]; exact h⟩
  refine ⟨⟨by simp [back_len, S2.len, hl], S2.gh, fun i sl h => ?_, fun i j a h1 h2 => S2.inj i j a (ho i a h1) (ho j a h2), fun i a h => S2.ownG i a (ho i a h), S2.pw, fun i a h => S2.pne i a (ho i a h)⟩, fun a z => ?_⟩
  · simp only [back_get] at h
    by_cases q : i ∈ vs
    · rw [if_pos q] at h
      split at h
      · have h := Option.some.inj h
        have hn := List.all_eq_true.mp hn i q
        rw [List.getD_eq_getElem?_getD] at h
        cases z : s.d[i]? with
        | none => rw [z] at h; simp at h; subst h; trivial
        | some o =>
          rw [z] at h
          simp at h
          subst h
          have sl := S.slot i _ z
          cases o with
          | no => trivial
          | val d => obtain ⟨v, e, hd⟩ := sl; exact ⟨v, e, dp_mono ex _ _ hd⟩
          | raw v => exact sl
          | ob o => obtain ⟨v, e, hd⟩ := sl; exact ⟨v, e, ob_mono ex hd⟩
          | own ds => rw [z] at hn; cases hn
      · cases h
    · rw [if_neg q] at h
      rw [← hs i q]
      exact S2.slot i sl h
  · rcases z with ⟨i, z⟩ | z
    · exact .inl ⟨i, ho i a z⟩
    · exact .inr z
end
theorem sa_write {K : PySem.W.Frag} {G H : Hp} {s : DSt} {σ : L2.St} {D : Addr} {o : HO} (S : SA K G s σ H) (hg : G D = none) (hn : ¬ Own s σ D) : SA K G s σ (upd H D o) := by
  refine ⟨S.len, fun a u h => ?_, fun i sl h => ?_, S.inj, S.ownG, ?_, S.pne⟩
  · rw [upd_ne fun z => by subst z; rw [hg] at h; cases h]; exact S.gh a u h
  · have q := S.slot i sl h
    cases sl with
    | no => trivial
    | val d => exact q
    | raw v => exact q
    | ob o => exact q
    | own es =>
      obtain ⟨a, xs, e, ha, hh⟩ := q
      refine ⟨a, xs, e, ?_, hh⟩
      rw [upd_ne fun z => hn (by
        subst z
        refine .inl ⟨i, ⟨es, h⟩, ?_⟩
        cases w : σ[i]? with
        | none => rw [w] at e; cases e
        | some o => rw [w] at e; simp at e; rw [e])]
      exact ha
  · have q := S.pw
    unfold PwOk at q ⊢
    split
    · trivial
    · rename_i pa ca cells t e
      rw [e] at q
      refine ⟨q.1, ?_, ?_, q.2.2.2⟩
      · rw [upd_ne fun z => hn (by subst z; exact .inr (by rw [e]; exact .inl rfl))]; exact q.2.1
      · rw [upd_ne fun z => hn (by subst z; exact .inr (by rw [e]; exact .inr rfl))]; exact q.2.2.1
theorem lc_reads {K : PySem.W.Frag} {gg : TG} {bd : Bd} {js vs : List Nat} {ft : M Bool} {fe : M R} {fi : M (List PyData)} (ho : GOk K gg bd js) (hj : ∀ j ∈ js, j ∈ vs) {σ : L2.St} {H : Hp} {Q : VK} (q : tD K cl W (fLc fi bd ft fe vs) σ H Q) :
    tLc (tI K cl W fi) gg (tT K cl (fun _ _ _ _ => False) ft) (tD K cl (fun _ _ _ _ => False) fe) vs σ H Q := by
  obtain ⟨G, s, S, q⟩ := q
  refine ⟨G, s, S, out_mono (out_bind q) fun ds G1 s1 H1 st1 S1 k J hJ D hD => ?_⟩
  have k : Out K cl W G1 s1 σ H1 (if leS (ds.length) then loopC bd ft fe vs ds [] s1 else .stuck) _ := out_bind k
  by_cases hz : leS ds.length
  rotate_left
  · rw [if_neg hz] at k; exact k.elim
  rw [if_pos hz] at k
  have hz : ds.length ≤ sizeLine := hz
  obtain ⟨stD, SD, rrD⟩ := new_list (ds := []) S1 hD .nil st1.dom
  obtain ⟨aD, xD, eD, _, _, gD, _, nD⟩ := rrD
  cases eD
  refine ⟨fun i m H2 => ∃ G2 s2 acc accv, SA K G2 s2 σ H2 ∧ Stp G1 s1 σ H1 G2 s2 σ H2 ∧ H2 D = some (.lst accv) ∧ RpAll K G2 accv acc ∧ G2 D = none ∧ ¬ Own s2 σ D ∧ acc.length ≤ i ∧ m = ds.length - i ∧ i ≤ ds.length ∧
      Out K cl W G1 s1 σ H1 (loopC bd ft fe vs (ds.drop i) acc s2) _, ⟨ds.length, G1, s1, [], [], SD, stD, upd_same, .nil, gD, nD, Nat.le_refl _, by simp, Nat.zero_le _, by simpa using k⟩, ?_⟩
  rintro i m H2 ⟨G2, s2, acc, accv, S2, st2, hD2, hacc, gD2, nD2, hla, rfl, hi, k2⟩
  obtain ⟨j1, j2⟩ := hJ G2 s2 σ H2 st2.ex S2 i
  by_cases hl : i < ds.length
  · obtain ⟨go, yl⟩ := j1 ds[i] (List.getElem?_eq_getElem hl)
    rw [List.drop_eq_getElem_cons hl] at k2
    unfold loopC at k2
    refine .inr ⟨go, fun H3 => ∃ G3 s3 acc accv, SA K G3 s3 σ H3 ∧ Stp G1 s1 σ H1 G3 s3 σ H3 ∧ H3 D = some (.lst accv) ∧ RpAll K G3 accv acc ∧ G3 D = none ∧ ¬ Own s3 σ D ∧ acc.length ≤ i + 1 ∧
      Out K cl W G1 s1 σ H1 (loopC bd ft fe vs (ds.drop (i + 1)) acc s3) _, fun H3 ⟨G3, s3, acc, accv, a1, a2, a3, a4, a5, a6, a7, a8⟩ => ⟨ds.length - (i + 1), by omega, G3, s3, acc, accv, a1, a2, a3, a4, a5, a6, a7, rfl, hl, a8⟩, fun x H3 y => ?_⟩
    by_cases hn : noOwn vs s2.d = true
    rotate_left
    · rw [if_neg hn] at k2; exact k2.elim
    rw [if_pos hn] at k2
    obtain ⟨stB, SB⟩ := sa_blank vs S2 hn
    obtain ⟨j3, _⟩ := hJ G2 _ _ H2 st2.ex SB i
    obtain ⟨_, yl⟩ := j3 ds[i] (List.getElem?_eq_getElem hl)
    obtain ⟨G3, st3, S3, rp⟩ := yl x H3 y
    cases eb : bd ds[i] { s2 with d := blank vs s2.d } with
    | none => rw [eb] at k2; exact k2.elim
    | some s4 =>
      rw [eb] at k2
      refine ho x ds[i] G3 _ (wipe σ vs) H3 s4 _ S3 rp eb fun σ4 l4 n4 m4 w4 st4 S4 => ?_
      have hw : wipe σ4 vs = wipe σ vs := (wipe_same l4 fun i hi => n4 i fun z => hi (hj i z)).trans (wipe_wipe σ vs)
      refine ⟨hw, G3, s4, S4, ?_⟩
      have stA := (stB.trans st3).trans st4
      -- what holds behind the turn
      have fin : ∀ {G5 : Hp} {s5 : DSt} {H5 : Hp}, Stp G2 s2 σ H2 G5 s5 σ4 H5 → SA K G5 s5 σ4 H5 → SA K G5 { s5 with d := putBack vs s2.d s5.d } σ H5 ∧ Stp G1 s1 σ H1 G5 { s5 with d := putBack vs s2.d s5.d } σ H5 ∧ H5 D = some (.lst accv) ∧ G5 D = none ∧ ¬ Own { s5 with d := putBack vs s2.d s5.d } σ D := by
        intro G5 s5 H5 st5 S5
        obtain ⟨b1, b2⟩ := sa_back S2 hn S5 st5.ex hw
        obtain ⟨c1, c2⟩ := st5.keep D _ hD2 nD2
        have st6 : Stp G2 s2 σ H2 G5 { s5 with d := putBack vs s2.d s5.d } σ H5 := ⟨st5.ex, st5.keep, fun a z => st5.own a (b2 a z), st5.dom, st5.pw⟩
        exact ⟨b1, st2.trans st6, c1, c2.trans gD2, fun z => (st6.own D z).elim nD2 fun z => by rw [hD2] at z; cases z⟩
      have k2 : Out K cl W G1 s1 σ H1 ((nerr (ft s4)).bind _) _ := k2
      cases et : ft s4 with
      | err x s5 => rw [et] at k2; exact k2.elim
      | stuck => rw [et] at k2; exact k2.elim
      | ok t s5 =>
        rw [et] at k2
        intro G5 H5 st5 S5
        have st25 := stA.trans st5
        cases t with
        | false =>
          obtain ⟨b1, b2, b3, b4, b5⟩ := fin st25 S5
          exact ⟨G5, _, acc, accv, b1, b2, b3, dps_mono st25.ex _ _ hacc, b4, b5, Nat.le_succ_of_le hla, k2⟩
        | true =>
          have k2 : Out K cl W G1 s1 σ H1 ((nerr (bnd fe fEsc s5)).bind _) _ := k2
          refine ⟨G5, s5, S5, ?_⟩
          cases ef : fe s5 with
          | err x s6 => rw [bnd_app, ef] at k2; exact k2.elim
          | stuck => rw [bnd_app, ef] at k2; exact k2.elim
          | ok r s6 =>
            rw [bnd_app, ef] at k2
            intro G6 H6 st6 S6 v rr
            have k2 : Out K cl W G1 s1 σ H1 ((nerr (fEsc r s6)).bind _) _ := k2
            unfold fEsc at k2
            cases ee : esc r s6 with
            | none => rw [ee] at k2; exact k2.elim
            | some p =>
              obtain ⟨r2, s7⟩ := p
              rw [ee] at k2
              obtain ⟨G7, st7, S7, ex7, ar⟩ := esc_ok S6 st6 rr ee
              have st27 := st25.trans st7
              obtain ⟨b1, b2, b3, b4, b5⟩ := fin st27 S7
              cases r2 with
              | raw u => exact k2.elim
              | ob o => exact k2.elim
              | new u => exact k2.elim
              | slot u => exact k2.elim
              | val d =>
                have hacc7 := dps_mono st27.ex _ _ hacc
                refine ⟨accv, b3, ?_, G7, _, acc ++ [d], accv ++ [v], sa_write b1 b4 b5, ⟨b2.ex, fun a o h1 h2 => ?_, b2.own, fun a h1 => ?_, b2.pw⟩, upd_same, dps_app hacc7 (.cons ar .nil), b4, b5, by simp; omega, k2⟩
                · rw [dps_len hacc]
                  omega
                · have ne : a ≠ D := fun z => by subst z; rw [hD] at h1; cases h1
                  rw [upd_ne ne]
                  exact b2.keep a o h1 h2
                · by_cases ne : a = D
                  · subst ne; rw [upd_same]; simp
                  · rw [upd_ne ne]; exact b2.dom a h1
  · have e : i = ds.length := by omega
    subst e
    rw [List.drop_length] at k2
    refine .inl ⟨j2 (Nat.le_refl _), ?_⟩
    have k3 := k2 G2 H2 st2 S2
    have k4 := k3 G2 H2 Stp.refl S2 (.ref D) ⟨D, accv, rfl, hD2, hacc, gD2, Classical.byContradiction fun z => st1.dom D z hD, nD2⟩
    exact k4
abbrev W0 : WX := fun _ _ _ _ => False
theorem d_lc {elt : Expr} {ifs : List Expr} {scope : Scope} {own : List (Str × Nat)} {gg : TG} {bd : Bd} {js : List Nat} {ft : M Bool} {fe : M R} (hc : X.calm = true) (hN : X.N.Nodup) (hi : DI X cl W tg iter fi) (ok : BlkOk X.N X.env.scope scope own) (ho : GOk X.K gg bd js) (hj : ∀ j ∈ js, j ∈ own.map (·.2))
    (hg : ∀ (s : Shared) (H : Hp) (C : Addr) (cl : List (Str × Addr)) (fp : List Addr), PG (X.blk s H scope (compEnvC scope cl C X.env) fp) tg gg) (ht : ∀ (s : Shared) (H : Hp) (C : Addr) (clo : List (Str × Addr)) (fp : List Addr), PTs (X.blk s H scope (compEnvC scope clo C X.env) fp) ifs (tT X.K cl W0 ft))
    (he : ∀ (s : Shared) (H : Hp) (C : Addr) (clo : List (Str × Addr)) (fp : List Addr), DE (X.blk s H scope (compEnvC scope clo C X.env) fp) cl W0 elt fe) (hs : ∀ x, foldedSetIterable iter X.env x = pure x := by intro _; rfl) :
    DE X cl W (.ListComp elt [⟨tg, iter, ifs, 0⟩] scope pos) (fLc fi bd ft fe (own.map (·.2))) := pe_imp (pe_lc hc hN hi ok hg ht he hs) fun σ H Q q => lc_reads ho hj q
theorem s_setLc {i : Nat} {y : Str} {py : Pos} {elt : Expr} {ifs : List Expr} {scope : Scope} {own : List (Str × Nat)} {spos : Pos} {gg : TG} {bd : Bd} {js : List Nat} {ft : M Bool} {fe : M R} (hc : X.calm = true) (hN : X.N.Nodup) (hy : X.N[i]? = some y) (hyl : X.env.scope.names.lookup y = some .local)
    (hsw : swapsWith (.ListComp elt [⟨tg, iter, ifs, 0⟩] scope pos) (some (.Name y py)) spos.line X.env = pure true) (hi : DI X cl W tg iter fi) (ok : BlkOk X.N X.env.scope scope own) (ho : GOk X.K gg bd js) (hj : ∀ j ∈ js, j ∈ own.map (·.2))
    (hg : ∀ (s : Shared) (H : Hp) (C : Addr) (cl : List (Str × Addr)) (fp : List Addr), PG (X.blk s H scope (compEnvC scope cl C X.env) fp) tg gg) (ht : ∀ (s : Shared) (H : Hp) (C : Addr) (clo : List (Str × Addr)) (fp : List Addr), PTs (X.blk s H scope (compEnvC scope clo C X.env) fp) ifs (tT X.K cl W0 ft))
    (he : ∀ (s : Shared) (H : Hp) (C : Addr) (clo : List (Str × Addr)) (fp : List Addr), DE (X.blk s H scope (compEnvC scope clo C X.env) fp) cl W0 elt fe) (hs : ∀ x, foldedSetIterable iter X.env x = pure x := by intro _; rfl) :
    DS X cl W (.Assign [.Name y py] (.ListComp elt [⟨tg, iter, ifs, 0⟩] scope pos) spos) (fSet i (fLc fi bd ft fe (own.map (·.2)))) := ps_imp (ps_setLc hc hN hy hyl hsw hi ok hg ht he hs) fun D σ H q => by
  have q' := set_reads q
  exact lc_reads ho hj q'
def fYes : M Bool := ret true
theorem dts_nil {K : PySem.W.Frag} : PTs X [] (tT K cl W fYes) := ⟨fun pins s σ H Q I ⟨G, st, S, h⟩ => pts_nil.run pins s σ H Q I (h G H Stp.refl S)⟩
theorem dts_one {t : M Bool} (h : DT X cl W c t) : PTs X [c] (tT X.K cl W t) := pts_one h
end
end DL

/-! DL9: built-ins, methods -/
noncomputable section
namespace DL
open PySem L2 PyProof.Rows
open Evl (Ex)
def looks : List R → DSt → Option (List PyData)
  | [], _ => some []
  | r :: rs, s => match look r s, looks rs s with
    | some d, some ds => some (d :: ds)
    | _, _ => none
theorem looks_q {K : PySem.W.Frag} {H0 G H : Hp} {s : DSt} {σ : L2.St} (S : SA K G s σ H) : ∀ {rs : List R} {vs : List V} {ds : List PyData}, RRels K H0 G s σ H vs rs → looks rs s = some ds → Paired (Dq K G H) vs ds
  | [], _, _, .nil, e => by cases e; exact .nil
  | r :: rs, _, ds, .cons h t, e => by
    simp only [looks] at e
    split at e
    · rename_i d es e1 e2
      cases e
      exact .cons (look_q S h e1) (looks_q S t e2)
    · cases e
def CallD (K : PySem.W.Frag) (r : List V → Hp → VK → Prop) (o : List PyData → Option R) : Prop := ∀ (G H : Hp) (vs : List V) (ds : List PyData) (r' : R) (Q : VK), Ex G H → Paired (Dq K G H) vs ds → o ds = some r' → Ans K G H r' Q → r vs H Q
def fCall (o : List PyData → Option R) (fs : M (List R)) : M R := bnd fs fun rs s => match looks rs s with
  | some ds => match o ds with
    | some (.slot _) => .stuck
    | some r => .ok r s
    | none => .stuck
  | none => .stuck
section
variable {X : Cx} {cl : String → Addr} {W : WX} {e a b c tg iter : Expr} {es : List Expr} {f g : M R} {fs : M (List R)} {fi : M (List PyData)} {pos : Pos} {p q : DSt → Flow}
theorem call_reads {K : PySem.W.Frag} {r : List V → Hp → VK → Prop} {o : List PyData → Option R} (h : CallD K r o) {σ : L2.St} {H : Hp} {Q : VK} (q : tD K cl W (fCall o fs) σ H Q) : tCB r (tA K cl W fs) σ H Q := by
  obtain ⟨G, s, S, q⟩ := q
  refine ⟨G, s, S, out_mono (out_bind q) fun rs G1 s1 H1 st1 S1 k vs hv => ?_⟩
  split at k
  · rename_i ds e1
    split at k
    · exact k.elim
    · rename_i r' ns ho
      exact h G1 H1 vs ds r' Q S1.gh (looks_q S1 hv e1) ho (ans_of S1 st1.dom (fun i z => ns i z) k)
    · exact k.elim
  · exact k.elim
theorem d_callB {x : Str} {p : Pos} {id : String} {r : List V → Hp → VK → Prop} {o : List PyData → Option R} (hc : CallR X (.builtin id) r) (h : CallD X.K r o) (hg : Gl X x) (hm : X.mg x = none) (hv : bootBuiltins x = some (.builtin id)) (ha : DA X cl W (e :: es) fs) (hn : x ≠ "__name__" := by decide) (hdb : (x == ("__debug__" : Str)) = false := by decide)
    (he : starEach (e :: es) X.env = (false, eval e X.env) :: starEach es X.env := by rfl) (hpl : (backTo pos (starEach es X.env)).any (·.1) = false := by rfl) : DE X cl W (.Call (.Name x p) (e :: es) [] pos) (fCall o fs) :=
  pe_imp (pe_callB hc hg hm hv ha hn hdb he hpl) fun σ H Q q => call_reads h q
theorem d_callTy {x : Str} {p : Pos} {T : String} {r : List V → Hp → VK → Prop} {o : List PyData → Option R} (hc : CallR X (.type T) r) (h : CallD X.K r o) (hg : Gl X x) (hm : X.mg x = none) (hv : bootBuiltins x = some (.type T)) (ha : DA X cl W (e :: es) fs) (hn : x ≠ "__name__" := by decide) (hdb : (x == ("__debug__" : Str)) = false := by decide)
    (he : starEach (e :: es) X.env = (false, eval e X.env) :: starEach es X.env := by rfl) (hpl : (backTo pos (starEach es X.env)).any (·.1) = false := by rfl) : DE X cl W (.Call (.Name x p) (e :: es) [] pos) (fCall o fs) :=
  pe_imp (pe_callTy hc hg hm hv ha hn hdb he hpl) fun σ H Q q => call_reads h q
theorem CallR.or' {f : Value} {r r' : List V → Hp → VK → Prop} (h : CallR X f r) (h' : CallR X f r') : CallR X f (fun vs H Q => r vs H Q ∨ r' vs H Q) := by
  intro pins s σ H vs us Q I rv q
  rcases q with q | q
  · exact h pins s σ H vs us Q I rv q
  · exact h' pins s σ H vs us Q I rv q
end
/-! the built-ins -/
def lenO : List PyData → Option R
  | [.list ds] => some (.val (.int ds.length))
  | [.tuple ds] => some (.val (.int ds.length))
  | [.str z] => if leS (z.length) then some (.val (.int z.length)) else none
  | _ => none
theorem cd_len {K : PySem.W.Frag} : CallD K (fun xs H Q => (∃ p ys, xs = [.ref p] ∧ (SqL K H p ys ∨ SqT K H p ys) ∧ Q (.int ys.length) H) ∨ ∃ z, xs = [.str z] ∧ z.length ≤ sizeLine ∧ Q (.int z.length) H) lenO := by
  intro G H vs ds r' Q ex hv ho k
  unfold lenO at ho
  split at ho
  · cases ho
    cases hv with
    | cons h t =>
      cases t
      obtain ⟨p, xs, rfl, hp, hx⟩ := dq_lst h
      refine .inl ⟨p, xs, rfl, .inl (.of hp), ?_⟩
      rw [dps_len hx]
      exact k.1 _ (.int _)
  · cases ho
    cases hv with
    | cons h t =>
      cases t
      obtain ⟨p, xs, rfl, hp, hx, _⟩ := dq_tup ex h
      refine .inl ⟨p, xs, rfl, .inr hp, ?_⟩
      rw [dps_len hx]
      exact k.1 _ (.int _)
  · split at ho
    · cases ho
      cases hv with
      | cons h t =>
        cases t
        obtain rfl := dq_str h
        exact .inr ⟨_, rfl, by assumption, k.1 _ (.int _)⟩
    · cases ho
  · cases ho
def listO : List PyData → Option R
  | [.list ds] => some (.new ds)
  | [.tuple ds] => some (.new ds)
  | _ => none
theorem cd_list {K : PySem.W.Frag} : CallD K (fun xs H Q => ∃ p ys, xs = [.ref p] ∧ (SqL K H p ys ∨ SqT K H p ys) ∧ ∀ l, H l = none → Q (.ref l) (upd H l (.lst ys))) listO := by
  intro G H vs ds r' Q ex hv ho k
  unfold listO at ho
  split at ho
  · cases ho
    cases hv with
    | cons h t =>
      cases t
      obtain ⟨p, xs, rfl, hp, hx⟩ := dq_lst h
      exact ⟨p, xs, rfl, .inl (.of hp), fun l hl => k l _ hl hx⟩
  · cases ho
    cases hv with
    | cons h t =>
      cases t
      obtain ⟨p, xs, rfl, hp, hx, _⟩ := dq_tup ex h
      exact ⟨p, xs, rfl, .inr hp, fun l hl => k l _ hl hx⟩
  · cases ho
def tupleO : List PyData → Option R
  | [.list ds] => some (.val (.tuple ds))
  | [.tuple ds] => some (.val (.tuple ds))
  | _ => none
theorem cd_tuple {K : PySem.W.Frag} : CallD K (fun xs H Q => ∃ p ys, xs = [.ref p] ∧ ((SqL K H p ys ∧ ∀ l, H l = none → Q (.ref l) (upd H l (.tup ys))) ∨ (SqT K H p ys ∧ Q (.ref p) H))) tupleO := by
  intro G H vs ds r' Q ex hv ho k
  unfold tupleO at ho
  split at ho
  · cases ho
    cases hv with
    | cons h t =>
      cases t
      obtain ⟨p, xs, rfl, hp, hx⟩ := dq_lst h
      exact ⟨p, xs, rfl, .inl ⟨.of hp, fun l hl => k.2 _ l _ rfl hl hx⟩⟩
  · cases ho
    cases hv with
    | cons h t =>
      cases t
      obtain ⟨p, xs, rfl, hp, hx, h1⟩ := dq_tup ex h
      exact ⟨p, xs, rfl, .inr ⟨hp, k.1 _ h1⟩⟩
  · cases ho
def intsD : List PyData → Option (List Int)
  | [] => some []
  | .int i :: r => (intsD r).map (i :: ·)
  | _ :: _ => none
def boolsD : List PyData → Option (List Bool)
  | [] => some []
  | .bool i :: r => (boolsD r).map (i :: ·)
  | _ :: _ => none
theorem ints_rp {K : PySem.W.Frag} {G : Hp} : ∀ {ds : List PyData} {vs : List V} {ns : List Int}, RpAll K G vs ds → intsD ds = some ns → vs = ns.map V.int
  | [], _, _, h, e => by cases h; cases e; rfl
  | .int i :: r, _, ns, h, e => by
    cases h with
    | cons h1 h2 =>
      cases h1
      simp only [intsD] at e
      cases q : intsD r with
      | none => rw [q] at e; cases e
      | some ms => rw [q] at e; cases e; rw [ints_rp h2 q]; rfl
  | .none :: _, _, _, _, e | .bool _ :: _, _, _, _, e | .str _ :: _, _, _, _, e | .list _ :: _, _, _, _, e | .tuple _ :: _, _, _, _, e | .dict _ :: _, _, _, _, e => by cases e
theorem bools_rp {K : PySem.W.Frag} {G : Hp} : ∀ {ds : List PyData} {vs : List V} {ns : List Bool}, RpAll K G vs ds → boolsD ds = some ns → vs = ns.map V.bl
  | [], _, _, h, e => by cases h; cases e; rfl
  | .bool i :: r, _, ns, h, e => by
    cases h with
    | cons h1 h2 =>
      cases h1
      simp only [boolsD] at e
      cases q : boolsD r with
      | none => rw [q] at e; cases e
      | some ms => rw [q] at e; cases e; rw [bools_rp h2 q]; rfl
  | .none :: _, _, _, _, e | .int _ :: _, _, _, _, e | .str _ :: _, _, _, _, e | .list _ :: _, _, _, _, e | .tuple _ :: _, _, _, _, e | .dict _ :: _, _, _, _, e => by cases e
theorem rp_ints {K : PySem.W.Frag} {G : Hp} : ∀ ns : List Int, RpAll K G (ns.map V.int) (ns.map PyData.int)
  | [] => .nil
  | n :: ns => .cons (.int n) (rp_ints ns)
@[simp] theorem intsD_map : ∀ ns : List Int, intsD (ns.map PyData.int) = some ns
  | [] => rfl
  | n :: ns => by simp [intsD, intsD_map ns]
@[simp] theorem boolsD_map : ∀ ns : List Bool, boolsD (ns.map PyData.bool) = some ns
  | [] => rfl
  | n :: ns => by simp [boolsD, boolsD_map ns]
def allO : List PyData → Option R
  | [.list ds] => (boolsD ds).map fun bs => .val (.bool (bs.all id))
  | _ => none
def anyO : List PyData → Option R
  | [.list ds] => (boolsD ds).map fun bs => .val (.bool (bs.any id))
  | _ => none
def sumO : List PyData → Option R
  | [.list ds] => (intsD ds).map fun bs => .val (.int bs.sum)
  | _ => none
theorem cd_all {K : PySem.W.Frag} : CallD K (rAll K) allO := by
  intro G H vs ds r' Q ex hv ho k
  unfold allO at ho
  split at ho
  · cases hv with
    | cons h t =>
      cases t
      obtain ⟨p, xs, rfl, hp, hx⟩ := dq_lst h
      rename_i es
      cases q : boolsD es with
      | none => rw [q] at ho; cases ho
      | some bs => rw [q] at ho; cases ho; exact ⟨p, bs, rfl, .of (by rw [← bools_rp hx q]; exact hp), k.1 _ (.bl _)⟩
  · cases ho
theorem cd_sum {K : PySem.W.Frag} : CallD K (rSum K) sumO := by
  intro G H vs ds r' Q ex hv ho k
  unfold sumO at ho
  split at ho
  · cases hv with
    | cons h t =>
      cases t
      obtain ⟨p, xs, rfl, hp, hx⟩ := dq_lst h
      rename_i es
      cases q : intsD es with
      | none => rw [q] at ho; cases ho
      | some bs => rw [q] at ho; cases ho; exact ⟨p, bs, rfl, .of (by rw [← ints_rp hx q]; exact hp), k.1 _ (.int _)⟩
  · cases ho
def maxI : List Int → Int
  | [] => 0
  | n :: ns => ns.foldl max n
def minI : List Int → Int
  | [] => 0
  | n :: ns => ns.foldl min n
theorem foldl_max_ge : ∀ (ns : List Int) (n : Int), n ≤ ns.foldl max n ∧ (∀ y ∈ ns, y ≤ ns.foldl max n) ∧ (ns.foldl max n = n ∨ ns.foldl max n ∈ ns)
  | [], n => by simp
  | m :: ns, n => by
    obtain ⟨h1, h2, h3⟩ := foldl_max_ge ns (max n m)
    simp only [List.foldl_cons, List.mem_cons]
    refine ⟨by omega, fun y hy => ?_, ?_⟩
    · rcases hy with rfl | hy
      · omega
      · exact h2 y hy
    · rcases h3 with h3 | h3
      · rcases Int.le_total n m with q | q
        · right; left; rw [h3]; omega
        · left; rw [h3]; omega
      · exact .inr (.inr h3)
theorem foldl_min_le : ∀ (ns : List Int) (n : Int), ns.foldl min n ≤ n ∧ (∀ y ∈ ns, ns.foldl min n ≤ y) ∧ (ns.foldl min n = n ∨ ns.foldl min n ∈ ns)
  | [], n => by simp
  | m :: ns, n => by
    obtain ⟨h1, h2, h3⟩ := foldl_min_le ns (min n m)
    simp only [List.foldl_cons, List.mem_cons]
    refine ⟨by omega, fun y hy => ?_, ?_⟩
    · rcases hy with rfl | hy
      · omega
      · exact h2 y hy
    · rcases h3 with h3 | h3
      · rcases Int.le_total n m with q | q
        · left; rw [h3]; omega
        · right; left; rw [h3]; omega
      · exact .inr (.inr h3)
theorem maxI_mem {ns : List Int} (h : ns ≠ []) : maxI ns ∈ ns := by
  cases ns with
  | nil => exact (h rfl).elim
  | cons n ns =>
    show ns.foldl max n ∈ n :: ns
    rcases (foldl_max_ge ns n).2.2 with q | q
    · rw [q]; exact List.mem_cons_self
    · exact List.mem_cons_of_mem _ q
theorem maxI_ge {ns : List Int} {y : Int} (h : y ∈ ns) : y ≤ maxI ns := by
  cases ns with
  | nil => cases h
  | cons n ns =>
    unfold maxI
    rcases List.mem_cons.mp h with rfl | h
    · exact (foldl_max_ge ns y).1
    · exact (foldl_max_ge ns n).2.1 y h
theorem minI_mem {ns : List Int} (h : ns ≠ []) : minI ns ∈ ns := by
  cases ns with
  | nil => exact (h rfl).elim
  | cons n ns =>
    show ns.foldl min n ∈ n :: ns
    rcases (foldl_min_le ns n).2.2 with q | q
    · rw [q]; exact List.mem_cons_self
    · exact List.mem_cons_of_mem _ q
theorem minI_le {ns : List Int} {y : Int} (h : y ∈ ns) : minI ns ≤ y := by
  cases ns with
  | nil => cases h
  | cons n ns =>
    unfold minI
    rcases List.mem_cons.mp h with rfl | h
    · exact (foldl_min_le ns y).1
    · exact (foldl_min_le ns n).2.1 y h
def maxO : List PyData → Option R
  | [.list ds] => match intsD ds with
    | some (n :: ns) => some (.val (.int (maxI (n :: ns))))
    | _ => none
  | [.int i, .int j] => some (.val (.int (if j > i then j else i)))
  | _ => none
def minO : List PyData → Option R
  | [.list ds] => match intsD ds with
    | some (n :: ns) => some (.val (.int (minI (n :: ns))))
    | _ => none
  | [.int i, .int j] => some (.val (.int (if j < i then j else i)))
  | _ => none
theorem cd_max {K : PySem.W.Frag} : CallD K (fun vs H Q => rMax K vs H Q ∨ ∃ i j, vs = [.int i, .int j] ∧ Q (.int (if j > i then j else i)) H) maxO := by
  intro G H vs ds r' Q ex hv ho k
  unfold maxO at ho
  split at ho
  · cases hv with
    | cons h t =>
      cases t
      obtain ⟨p, xs, rfl, hp, hx⟩ := dq_lst h
      split at ho
      · rename_i n ns q
        cases ho
        refine .inl ⟨p, n :: ns, rfl, .of (by rw [← ints_rp hx q]; exact hp), by simp, fun m hm hle => ?_⟩
        have e : m = maxI (n :: ns) := Int.le_antisymm (maxI_ge hm) (hle _ (maxI_mem (by simp)))
        rw [e]
        exact k.1 _ (.int _)
      · cases ho
  · cases ho
    cases hv with
    | cons h t =>
      cases t with
      | cons h2 t =>
        cases t
        obtain rfl := dq_int h
        obtain rfl := dq_int h2
        exact .inr ⟨_, _, rfl, k.1 _ (.int _)⟩
  · cases ho
theorem cd_min {K : PySem.W.Frag} : CallD K (fun vs H Q => rMin K vs H Q ∨ ∃ i j, vs = [.int i, .int j] ∧ Q (.int (if j < i then j else i)) H) minO := by
  intro G H vs ds r' Q ex hv ho k
  unfold minO at ho
  split at ho
  · cases hv with
    | cons h t =>
      cases t
      obtain ⟨p, xs, rfl, hp, hx⟩ := dq_lst h
      split at ho
      · rename_i n ns q
        cases ho
        refine .inl ⟨p, n :: ns, rfl, .of (by rw [← ints_rp hx q]; exact hp), by simp, fun m hm hle => ?_⟩
        have e : m = minI (n :: ns) := Int.le_antisymm (hle _ (minI_mem (by simp))) (minI_le hm)
        rw [e]
        exact k.1 _ (.int _)
      · cases ho
  · cases ho
    cases hv with
    | cons h t =>
      cases t with
      | cons h2 t =>
        cases t
        obtain rfl := dq_int h
        obtain rfl := dq_int h2
        exact .inr ⟨_, _, rfl, k.1 _ (.int _)⟩
  · cases ho
def absO : List PyData → Option R
  | [.int i] => some (.val (.int (if i < 0 then -i else i)))
  | _ => none
def intO : List PyData → Option R
  | [.int i] => some (.val (.int i))
  | [.bool b] => some (.val (.int (if b then 1 else 0)))
  | _ => none
theorem cd_int {K : PySem.W.Frag} : CallD K (fun xs H Q => (∃ i, xs = [.int i] ∧ Q (.int i) H) ∨ ∃ k, xs = [.bl k] ∧ Q (.int (if k then 1 else 0)) H) intO := by
  intro G H vs ds r' Q ex hv ho k
  unfold intO at ho
  split at ho
  · cases ho
    cases hv with
    | cons h t =>
      cases t
      obtain rfl := dq_int h
      exact .inl ⟨_, rfl, k.1 _ (.int _)⟩
  · cases ho
    cases hv with
    | cons h t =>
      cases t
      obtain rfl := dq_bl h
      exact .inr ⟨_, rfl, k.1 _ (.int _)⟩
  · cases ho
def sortI (ns : List Int) : List Int := ns.mergeSort fun a b => decide (a ≤ b)
theorem sortI_perm (ns : List Int) : (sortI ns).Perm ns := List.mergeSort_perm _ _
theorem sortI_le (ns : List Int) : (sortI ns).Pairwise (· ≤ ·) := by
  have h := List.pairwise_mergeSort (le := fun a b : Int => decide (a ≤ b)) (fun a b c h1 h2 => by simp at *; omega) (fun a b => by simp; omega) ns
  exact h.imp fun h => by simpa using h
theorem perm_sorted_eq : ∀ {l m : List Int}, l.Perm m → l.Pairwise (· ≤ ·) → m.Pairwise (· ≤ ·) → l = m
  | [], m, h, _, _ => by have := h.length_eq; cases m with | nil => rfl | cons => simp at this
  | a :: l, [], h, _, _ => by have := h.length_eq; simp at this
  | a :: l, b :: m, h, h1, h2 => by
    have ha := (List.pairwise_cons.mp h1)
    have hb := (List.pairwise_cons.mp h2)
    have e1 : a ∈ b :: m := h.mem_iff.mp List.mem_cons_self
    have e2 : b ∈ a :: l := h.mem_iff.mpr List.mem_cons_self
    have e : a = b := by
      rcases List.mem_cons.mp e1 with e | e
      · exact e
      · rcases List.mem_cons.mp e2 with f | f
        · exact f.symm
        · have := ha.1 b f; have := hb.1 a e; omega
    subst e
    rw [perm_sorted_eq (List.Perm.cons_inv h) ha.2 hb.2]
theorem sortI_eq {ns ms : List Int} (h : ms.Perm ns) (h2 : ms.Pairwise (· ≤ ·)) : ms = sortI ns := perm_sorted_eq (h.trans (sortI_perm ns).symm) h2 (sortI_le ns)
def sortDD (ds : List PyData) : List PyData := ds.mergeSort (PySem.W.sortLe (PyProof.Rows.listOrd PyProof.Rows.itemOrd) false PySem.W.keyToks)
def canSort (ds : List PyData) : Prop := PySem.W.AllAlike ds ∧ PySem.W.Sortable ds ∧ ∀ d ∈ ds, d.depth ≤ 50
instance (ds : List PyData) : Decidable (canSort ds) := Classical.propDecidable _
def sortedO : List PyData → Option R
  | [.list ds] => match intsD ds with
    | some ns => some (.new ((sortI ns).map .int))
    | none => if canSort ds then some (.new (sortDD ds)) else none
  | _ => none
def rSortedD (K : PySem.W.Frag) : List V → Hp → VK → Prop := fun vs H Q => ∃ (a : Addr) (xs : List V) (ds : List PyData), vs = [.ref a] ∧ SqL K H a xs ∧ DpAll K H xs ds ∧ canSort ds ∧
  ∀ zs : List (V × PyData), zs.Perm (xs.zip ds) → zs.map (·.2) = sortDD ds → ∀ p, H p = none → Q (.ref p) (upd H p (.lst (zs.map (·.1))))
theorem each_of {α β : Type} {R : α → β → Prop} : ∀ {as : List α} {bs : List β}, as.length = bs.length → (∀ (i : Nat) (a : α) (b : β), as[i]? = some a → bs[i]? = some b → R a b) → PySem.W.EachIs R as bs
  | [], [], _, _ => .nil
  | [], _ :: _, h, _ => by simp at h
  | _ :: _, [], h, _ => by simp at h
  | a :: as, b :: bs, h, f => .cons (f 0 a b rfl rfl) (each_of (by simpa using h) fun i a b h1 h2 => f (i + 1) a b (by simpa using h1) (by simpa using h2))
theorem dpsAll_get {K : PySem.W.Frag} {H : Hp} : ∀ {ds : List PyData} {vs : List V} {i : Nat} {v : V}, DpAll K H vs ds → vs[i]? = some v → ∃ d, ds[i]? = some d ∧ Dp K H v d
  | [], _, i, v, h, e => by cases h; simp at e
  | d :: ds, _, 0, v, h, e => by
    cases h with
    | cons h1 h2 => simp at e; subst e; exact ⟨d, rfl, h1⟩
  | d :: ds, _, i + 1, v, h, e => by
    cases h with
    | cons h1 h2 => simpa using dpsAll_get (i := i) h2 (by simpa using e)
theorem dpsAll_len {K : PySem.W.Frag} {H : Hp} : ∀ {ds : List PyData} {vs : List V}, DpAll K H vs ds → vs.length = ds.length
  | [], _, h => by cases h; rfl
  | d :: ds, _, h => by
    cases h with
    | cons h1 h2 => simp [dpsAll_len h2]
theorem vals_paired : ∀ {zs : List (V × PyData)} {us : List Value}, PySem.W.EachIs (fun (u : Value) (z : V × PyData) => RelV z.1 u) us zs → Vals (zs.map (·.1)) us
  | _, _, .nil => .nil
  | _, _, .cons r t => .cons r (vals_paired t)
section
variable {X : Cx}
theorem cr_sortedD (hu : X.A.units + 64 < cLine) : CallR X (.builtin "sorted") (rSortedD X.K) := by
  intro pins s σ H vs us Q I rv h
  obtain ⟨a, xs, ds, rfl, hs, hd, ⟨c1, c2, c3⟩, q⟩ := h
  obtain ⟨its, r, pl, hz⟩ := I.list hs
  rw [Vals.ref1 rv]
  have lx := dpsAll_len hd
  have li : its.length = xs.length := r.length.symm
  obtain ⟨zs, ezs⟩ : ∃ zs, zs = xs.zip ds := ⟨_, rfl⟩
  have lz : zs.length = its.length := by rw [ezs, List.length_zip]; omega
  have zget : ∀ (i : Nat) (z : V × PyData), zs[i]? = some z → xs[i]? = some z.1 ∧ ds[i]? = some z.2 := fun i z e => by
    rw [ezs, List.getElem?_zip_eq_some] at e
    exact e
  have both : ∀ (i : Nat) (u : Value) (z : V × PyData), its[i]? = some u → zs[i]? = some z → RelV z.1 u ∧ z.2 ∈ ds ∧ ∀ h', (∀ b o, s.heap.get? b = some o → h'.get? b = some o) → ∃ as, Reads h' u z.2 as := by
    intro i u z e1 e2
    obtain ⟨g1, g2⟩ := zget i z e2
    obtain ⟨u', e3, rr⟩ := r.get g1
    rw [e1] at e3
    cases e3
    refine ⟨rr, List.mem_of_getElem? g2, fun h' hk => ?_⟩
    obtain ⟨d, e4, dp⟩ := dpsAll_get hd g1
    rw [g2] at e4
    cases e4
    have J : Inv X pins σ H { s with heap := h', toks := s.toks } := I.kept hk
    exact Dp.reads J z.2 z.1 u dp rr
  have hsz : its.length ≤ sizeLine := by rw [li]; exact hz
  have old : ∀ b o, s.heap.get? b = some o → (PySem.W.sortingHeap (PySem.W.copyHeap s.heap its) (s.heap.objs.size + 1) its).get? b = some o := fun b o e => PySem.W.sorting_copy_old e
  have eD : PySem.W.EachIs (fun v d => ∃ as, Reads (PySem.W.sortingHeap (PySem.W.copyHeap s.heap its) (s.heap.objs.size + 1) its) v d as) its ds := each_of (by omega) fun i u d e1 e2 => by
    obtain ⟨x, e3⟩ : ∃ x, xs[i]? = some x := by
      have := (List.getElem?_eq_some_iff.mp e1).1
      exact ⟨_, List.getElem?_eq_getElem (by omega : i < xs.length)⟩
    have ez : zs[i]? = some (x, d) := by rw [ezs, List.getElem?_zip_eq_some]; exact ⟨e3, e2⟩
    exact (both i u (x, d) e1 ez).2.2 _ old
  have un : X.A.in1.in1.units = X.A.units + 2 := rfl
  have S := PySem.W.SortsAt.data (prog := X.prog) (w := X.w) (A := X.A.in1.in1) (s := { s with heap := PySem.W.sortingHeap (PySem.W.copyHeap s.heap its) (s.heap.objs.size + 1) its }) eD c1 c2 fun d hd => by
    have := c3 d hd
    rw [un]
    omega
  refine PySem.W.sorted_vals pl.isList S hsz ?_
  have e1 : PySem.W.EachIs (fun (u : Value) (z : V × PyData) => RelV z.1 u) its zs := each_of lz.symm fun i u z g1 g2 => (both i u z g1 g2).1
  have e2 : PySem.W.EachIs (fun v (z : V × PyData) => (PySem.W.dataKind (PySem.W.sortingHeap (PySem.W.copyHeap s.heap its) (s.heap.objs.size + 1) its) ds).keyOf v = some (PySem.W.keyToks z.2)) its zs := each_of lz.symm fun i u z g1 g2 => by
    obtain ⟨_, md, rd⟩ := both i u z g1 g2
    obtain ⟨as, rd⟩ := rd _ old
    exact PySem.W.dataKind_some c1 md rd
  have e3 := PySem.W.sortVals_each (κ := PySem.W.dataKind (PySem.W.sortingHeap (PySem.W.copyHeap s.heap its) (s.heap.objs.size + 1) its) ds) (rev := false) (fun z : V × PyData => PySem.W.keyToks z.2) e1 e2
  obtain ⟨ys, ey⟩ : ∃ ys, ys = zs.mergeSort (PySem.W.sortLe (PyProof.Rows.listOrd PyProof.Rows.itemOrd) false fun z : V × PyData => PySem.W.keyToks z.2) := ⟨_, rfl⟩
  have py : ys.Perm zs := by rw [ey]; exact List.mergeSort_perm _ _
  have my : ys.map (·.2) = sortDD ds := by
    have ed : zs.map (·.2) = ds := by rw [ezs]; exact List.map_snd_zip (by omega)
    rw [ey, ← ed]
    exact PySem.W.sort_maps (fun z : V × PyData => z.2) fun _ _ _ _ => rfl
  obtain ⟨out, eo⟩ : ∃ out, out = PySem.W.sortVals (PySem.W.dataKind (PySem.W.sortingHeap (PySem.W.copyHeap s.heap its) (s.heap.objs.size + 1) its) ds) false its its := ⟨_, rfl⟩
  rw [← eo] at e3 ⊢
  have e3 : PySem.W.EachIs (fun (u : Value) (z : V × PyData) => RelV z.1 u) out ys := by rw [ey]; exact e3
  have vo := vals_paired e3
  obtain ⟨ep, he'⟩ := PyProof.Rows.sortedAll_at s.heap its out.toArray
  have hlen : (ys.map (·.1)).length ≤ sizeLine := by rw [List.length_map, py.length_eq]; omega
  exact ⟨.ref _, upd H (s.heap.objs.size + 1) (.lst (ys.map (·.1))), I.laid (t' := s.toks) (fun _ _ => PyProof.Rows.sortedAll_old) (Nat.le_succ _) ⟨hlen, out, ep, vo, he'⟩, rfl, q ys (by rw [← ezs]; exact py) my _ (I.hok.fresh (Nat.le_succ _))⟩
end
theorem rps_zip {K : PySem.W.Frag} {G : Hp} : ∀ {zs : List (V × PyData)}, (∀ z ∈ zs, Rp K G z.1 z.2) → RpAll K G (zs.map (·.1)) (zs.map (·.2))
  | [], _ => .nil
  | z :: zs, h => .cons (h z List.mem_cons_self) (rps_zip fun z hz => h z (List.mem_cons_of_mem _ hz))
theorem cd_sorted {K : PySem.W.Frag} : CallD K (fun vs H Q => rSortedI K vs H Q ∨ rSortedD K vs H Q) sortedO := by
  intro G H vs ds r' Q ex hv ho k
  unfold sortedO at ho
  split at ho
  · cases hv with
    | cons h t =>
      cases t
      obtain ⟨p, xs, rfl, hp, hx⟩ := dq_lst h
      rename_i es
      cases q : intsD es with
      | none =>
        rw [q] at ho
        dsimp only at ho
        split at ho
        · rename_i hc
          cases ho
          refine .inr ⟨p, xs, es, rfl, .of hp, rps_dps _ _ (dps_mono ex _ _ hx), hc, fun zs pz mz l hl => ?_⟩
          have rz : RpAll K G (zs.map (·.1)) (zs.map (·.2)) := rps_zip fun z hz => by
            have hz := pz.mem_iff.mp hz
            obtain ⟨i, hi, e⟩ := List.mem_iff_getElem.mp hz
            have e : (xs.zip es)[i]? = some z := by rw [List.getElem?_eq_getElem hi, e]
            rw [List.getElem?_zip_eq_some] at e
            obtain ⟨d, e2, rr⟩ := dps_get hx e.1
            rw [e.2] at e2
            cases e2
            exact rr
          rw [mz] at rz
          exact k l _ hl rz
        · cases ho
      | some ns =>
        rw [q] at ho
        cases ho
        refine .inl ⟨p, ns, rfl, .of (by rw [← ints_rp hx q]; exact hp), fun ms l h1 h2 hl => ?_⟩
        rw [sortI_eq h1 h2]
        exact k l _ hl (rp_ints _)
  · cases ho
end DL

/-! DLg: promises of defs that are called where nothing is being written out (A.guards = some []) -/
noncomputable section
namespace DL
open PySem L2 PySem.Spec PyProof.Rows
open Evl (Ex)
structure RoomG (k : Nat) (A : Around) : Prop where
  room : Room k A
  quiet : A.guards = some []
theorem RoomG.mono {j k : Nat} {A : Around} (r : RoomG k A) (h : j ≤ k) : RoomG j A := ⟨r.room.mono h, r.quiet⟩
theorem RoomG.units {k : Nat} {A : Around} (r : RoomG k A) : A.units + 64 < cLine := r.room.units
theorem RoomG.deeper {k : Nat} {A : Around} (r : RoomG (k + 1) A) (env : Env) : RoomG k (A.deeper env) := ⟨r.room.deeper env, r.quiet⟩
structure FnG (P : Program) (w : World) (K : PySem.W.Frag) (mg : Str → Option Value) (base : Heap) (CX : CXT) (k : Nat) (f : Addr) (fd : FuncData) (ps : List Str) (sp : Sp) : Prop where
  many : ∀ vs H Q E, sp vs H Q E → vs.length = ps.length
  goes : ∀ (A : Around) (outer : List Env) (st : Shared) (H : Hp) (args : Args) (us : List Value) (vs : List V) (Q : VK) (E : XK), RoomG k A → Env0 P w K mg base A outer st H → BindsTo st fd args (ps.zip us) → Vals vs us → sp vs H Q E →
    codeAny (model P w) A (.call (.ref f) args) (CR CX outer P w H st Q E) st
section
variable {X : Cx} {CX : CXT} {k : Nat} {f : Addr} {fd : FuncData} {ps : List Str} {sp : Sp} {E : L2.St → XK} {x : Str} {p pos : Pos} {e : Expr} {es : List Expr} {t : TA}
theorem run_G {pins : List (Addr × Obj)} {σ : L2.St} {H : Hp} {st : Shared} {Q : VK} {us : List Value} {vs : List V} (F : FnG X.prog X.w X.K X.mg X.base CX k f fd ps sp) (hr : RoomG k X.A) (hb : Binds X.K fd ps []) (hx : PassesAt CX X σ (E σ))
    (I : Inv X pins σ H st) (r : Vals vs us) (h : sp vs H Q (E σ)) : wpAny (model X.prog X.w) X.A (call (.ref f) us) (EP X pins σ Q) X.xe st := by
  have hl : us.length = ps.length := r.length.symm.trans (F.many _ _ _ _ h)
  have hbind := hb st us I.kIn (by simpa using hl)
  rw [List.append_nil] at hbind
  refine wpAny_call (codeAny_mono (F.goes X.A X.stack st H ⟨us, []⟩ us vs Q (E σ) hr I.env0 hbind r h) ?_)
  intro res st' hq
  match res, hq with
  | .error z, hq => exact hx pins H st z st' I hq
  | .ok (.ret u), hq => exact I.after hq
  | .ok .next, hq => exact hq.elim
  | .ok .brk, hq => exact hq.elim
  | .ok .cont, hq => exact hq.elim
theorem pe_callG (F : FnG X.prog X.w X.K X.mg X.base CX k f fd ps sp) (hr : RoomG k X.A) (hg : Gl X x) (hm : X.mg x = some (.ref f)) (hk : PySem.W.keepIn X.K (.ref f) = true) (hb : Binds X.K fd ps []) (hx : ∀ σ, PassesAt CX X σ (E σ))
    (ha : PA X (e :: es) t) (hdb : (x == ("__debug__" : Str)) = false := by decide) (he : starEach (e :: es) X.env = (false, eval e X.env) :: starEach es X.env := by rfl) (hpl : (backTo pos (starEach es X.env)).any (·.1) = false := by rfl) :
    PE X (.Call (.Name x p) (e :: es) [] pos) (tCallS sp E t) :=
  ⟨fun pins st σ H Q I h => wpAny_Call_Name_kw (ld_glob I hg hm (PySem.W.callWith_K (h₀ := X.base) I.ok.mod.kin hk (thn (ha.run pos pins st σ H _ I h) fun _ _ ⟨_, _, I1, r, q⟩ => ⟨I1.kIn, run_G F hr hb (hx σ) I1 r q⟩) he hpl) hdb)⟩
end
section
variable {P : Program} {w : World} {K : PySem.W.Frag} {mg : Str → Option Value} {base : Heap}
theorem okG {x qual : Str} {d : Stmt} {f : Addr} {fd : FuncData} {N ps : List Str} {k : Nat} {sp : Sp} (F : Fun K x qual d f fd) (S : FnScope N ps (defScope d)) (many : ∀ vs H Q E, sp vs H Q E → vs.length = ps.length)
    (hbody : ∀ (cdv : Value) (A : Around) (outer : List Env) (st : Shared) (H : Hp) (vs : List V) (Q : VK) (E : XK), RoomG k (A.deeper (envOfC qual (defScope d) st.heap.objs.size f cdv)) → sp vs H Q E →
      ∃ t, PSs (cxOf (L2.CX P w) P w K mg base N qual (defScope d) f cdv A outer st H E) (defBody d) t ∧ t { nx := fun _ H' => Q .non H', rt := Q } (start N vs) H) : FnG P w K mg base (L2.CX P w) (k + 1) f fd ps sp := by
  obtain ⟨oc, od, kV, doc, pm, an, cdv, ct, osl, rfl, lk, hcd⟩ := F.ex
  refine ⟨many, ?_⟩
  intro A outer st H args us vs Q E hr e0 hb r hsp
  have up : ∀ b o, base.get? b = some o → st.heap.get? b = some o := fun b o z => (e0.bs b o z).1
  have KX : K.In st.heap := e0.mod.kin.keeps up
  refine codeAny_call_function hr.room.depth (KX _ _ lk) rfl S.co S.gen rfl (PySem.W.codeRec_of KX hcd) (hb _ _ _ _ (wpAny_newFunctionEnv_cells S.kind (fun y hy => ?_) fun env he st1 z => ?_))
  · rcases S.par y.1 (List.of_mem_zip (a := y.1) (b := y.2) hy).1 with q | q
    · exact .inl q
    · exact .inr ⟨q, PySem.W.cellsFrom_some _ _ _ (.inl q)⟩
  · subst he
    obtain ⟨t, ht, hq⟩ := hbody cdv A outer st H vs Q E (hr.deeper _) hsp
    have I : Inv (cxOf (L2.CX P w) P w K mg base N qual (defScope d) f cdv A outer st H E) [] (start N vs) H st1 := inv_start S hr.room.hd e0 (many _ _ _ _ hsp) r z
    refine ⟨(e0.mod.nolimit.keeps up).keeps z.toInCall.keep, codeAny_func (wpAny_mono (ht.run [] st1 (start N vs) H _ I hq) ?_ fun _ _ hs => hs)⟩
    intro fl st' hs
    match fl, hs with
    | .ret u, ⟨v, _, H', J, rv, q⟩ => exact ⟨v, H', J.os, J.bare, J.base, J.hok, rv, q⟩
    | .next, ⟨_, H', J, q⟩ => exact ⟨V.non, H', J.os, J.bare, J.base, J.hok, rfl, q⟩
    | .brk, ⟨_, _, _, q⟩ => exact q.elim
    | .cont, ⟨_, _, _, q⟩ => exact q.elim
end
/-! ### the end: the law is called where nothing is being written out -/
theorem quiet_caller {k : Nat} (h : Room k callerA) : RoomG k callerA := ⟨h, rfl⟩
section
variable {P : Program} {w : World} {K : PySem.W.Frag} {mg mb : Str → Option Value} {k : Nat} {fa a : Addr} {fd : FuncData} {x : Str} {sp : Sp} {s1 : Shared} {us : List Value} {ns : List Int}
def LawEnd (s1 : Shared) (r : Result) (s2 : Shared) : Prop := r = .ok (.ret (.bool true)) ∧ OldK s1.heap s2.heap ∧ s2.os = s1.os ∧ AllBare s2.gens
theorem law_from {H : Hp} (KX : K.In s1.heap) (G1 : s1.heap.Ns mainGlobals mg) (G2 : s1.heap.Ns builtinsNs mb) (G3 : ∀ x : Str, x ≠ "__name__" → mb x = bootBuiltins x) (G4 : s1.heap.NoLimit) (G5 : s1.gens = #[])
    (scr : s1.heap.get? a = some { cls := .type "list", data := .seq us.toArray }) (hr : Room k callerA) (F : ∀ base : Heap, K.In base → base.Ns mainGlobals mg → FnG P w K mg base (L2.CX P w) k fa fd [x] sp)
    (bi : ∀ (st : Shared) (u : Value), BindsTo st fd ⟨[u], []⟩ [(x, u)]) (on : Only H) (pr : sp [.ref a] H (fun v _ => v = .bl true) fun _ _ _ => False) (hok : HOk P w H s1.heap) (one : ∀ b, H b ≠ none → b = a) (out : H a ≠ none → K.lookup a = none) :
    codeAny (model P w) callerA (.call (.ref fa) ⟨[.ref a], []⟩) (LawEnd s1) s1 := by
  have free : ∀ b, b ≠ a → H b = none := fun b nb => Classical.byContradiction fun z => nb (one b z)
  have stays : ∀ (b : Addr) (m : Str → Option Value), s1.heap.Ns b m → (hidT s1.heap H).Ns b m := by
    rintro b m ⟨o, es, ep, e, d, r⟩
    refine ⟨o, es, ep, hidT_get e (free b ?_), d, r⟩
    rintro rfl
    rw [scr] at e
    cases e
    exact absurd d (by intro z; cases z)
  have K1 : K.In (hidT s1.heap H) := fun b o e => hidT_get (KX b o e) (Classical.byContradiction fun z => by
    have := one b z
    subst this
    rw [out z] at e
    cases e)
  obtain ⟨mc, l1, l2⟩ := G4
  have e0 : Env0 P w K mg (hidT s1.heap H) callerA [] s1 H := ⟨rfl, ⟨K1, stays _ _ G1, ⟨mb, stays _ _ G2, G3⟩, ⟨mc, stays _ _ l1, l2⟩⟩, fun _ _ e => of_hidT e, Nat.le_of_eq (hidT_size _ _), trivial, fun _ hb => (by cases hb), hok, .of_eq G5⟩
  refine codeAny_mono ((F _ K1 (stays _ _ G1)).goes callerA [] s1 H ⟨[.ref a], []⟩ [.ref a] [.ref a] _ _ (quiet_caller hr) e0 (bi s1 (.ref a)) (.cons rfl .nil) pr) ?_
  intro r s2 h
  match r, h with
  | .error _, h =>
    obtain ⟨_, _, _, _, _, _, _, _, _, _, _, _, z⟩ := h
    exact z.elim
  | .ok .next, h => exact h.elim
  | .ok .brk, h => exact h.elim
  | .ok .cont, h => exact h.elim
  | .ok (.ret u), ⟨v, H2, os, bare, un, hok2, rv, q⟩ =>
    have q : v = .bl true := q
    subst q
    have rv : u = Value.bool true := rv
    subst rv
    refine ⟨rfl, OldK.of_keep fun b o e => ?_, os, bare⟩
    rcases on b with z | ⟨ob, xs, z⟩
    · exact un.keep b o e z (fun y => by cases y) (fun y => by cases y)
    · have g1 := (hok b _ z).1
      rw [e] at g1
      cases g1
      exact (hok2 b _ (un.frzs b _ _ z)).1
theorem law_goes (KX : K.In s1.heap) (G1 : s1.heap.Ns mainGlobals mg) (G2 : s1.heap.Ns builtinsNs mb) (G3 : ∀ x : Str, x ≠ "__name__" → mb x = bootBuiltins x) (G4 : s1.heap.NoLimit) (G5 : s1.gens = #[])
    (scr : s1.heap.get? a = some { cls := .type "list", data := .seq us.toArray }) (hi : IntsAre us ns) (hl : ns.length ≤ sizeLine) (hr : Room k callerA) (F : ∀ base : Heap, K.In base → base.Ns mainGlobals mg → FnG P w K mg base (L2.CX P w) k fa fd [x] sp)
    (bi : ∀ (st : Shared) (u : Value), BindsTo st fd ⟨[u], []⟩ [(x, u)]) (pr : ∀ H : Hp, Only H → SqL K H a (ns.map V.int) → sp [.ref a] H (fun v _ => v = .bl true) fun _ _ _ => False) :
    codeAny (model P w) callerA (.call (.ref fa) ⟨[.ref a], []⟩) (LawEnd s1) s1 := by
  have rv := vals_ints hi
  have no : ∀ {H : Hp}, (∀ b, H b = none) → Only H := fun h b => .inl (h b)
  cases hk : K.lookup a with
  | some o =>
    have e := KX a o hk
    rw [scr] at e
    cases e
    have lay : SqL K (fun _ => none) a (ns.map V.int) := .inr ⟨_, us.toArray, _, hk, rfl, rfl, rfl, by rw [List.size_toArray, hi.length]; exact hl, by simpa using rv⟩
    exact law_from (H := fun _ => none) KX G1 G2 G3 G4 G5 scr hr F bi (no fun _ => rfl) (pr _ (no fun _ => rfl) lay) (fun _ _ z => by cases z) (fun _ z => absurd rfl z) fun z => absurd rfl z
  | none =>
    obtain ⟨H, eH⟩ : ∃ H : Hp, H = upd (fun _ => none) a (.frz { cls := .type "list", data := .seq us.toArray } (.lst (ns.map V.int))) := ⟨_, rfl⟩
    have at_a : H a = some (.frz { cls := .type "list", data := .seq us.toArray } (.lst (ns.map V.int))) := by rw [eH, upd_same]
    have at_n : ∀ b, b ≠ a → H b = none := fun b nb => by rw [eH, upd_ne nb]
    have on : Only H := fun b => by
      by_cases hb : b = a
      · subst hb; exact .inr ⟨_, _, at_a⟩
      · exact .inl (at_n b hb)
    refine law_from KX G1 G2 G3 G4 G5 scr hr F bi on (pr H on (.inl (.inr ⟨_, at_a⟩))) (fun b u z => ?_) (fun b z => Classical.byContradiction fun nb => z (at_n b nb)) fun _ => hk
    by_cases hb : b = a
    · subst hb
      rw [at_a] at z
      cases z
      exact ⟨scr, by rw [List.length_map]; exact hl, us, _, rv, scr⟩
    · rw [at_n b hb] at z
      cases z
end
end DL

/-! DL10: calls of the program's own defs; a def -/
noncomputable section
namespace DL
open PySem L2 PyProof.Rows
open Evl (Ex)
structure FStp (G : Hp) (w : Pw) (H : Hp) (G' : Hp) (w' : Pw) (H' : Hp) : Prop where
  ex : Ex G G'
  gh : Ex G' H'
  keep : ∀ a o, H a = some o → ¬ POwn w a → H' a = some o ∧ G' a = G a
  own : ∀ a, POwn w' a → POwn w a ∨ H a = none
  dom : ∀ a, H a ≠ none → H' a ≠ none
  pw : ∀ a, POwn w a → POwn w' a
def FRel (K : PySem.W.Frag) (H G' : Hp) (w' : Pw) (H' : Hp) (v : V) : R → Prop
  | .val d => Rp K G' v d
  | .raw u => v = u
  | .ob o => ObRel K G' v o
  | .slot _ => False
  | .new ds => ∃ a xs, v = .ref a ∧ H' a = some (.lst xs) ∧ RpAll K G' xs ds ∧ G' a = none ∧ H a = none ∧ ¬ POwn w' a
def spF (K : PySem.W.Frag) (cl : String → Addr) (F : List R → Pw → FRes) : Sp := fun vs H Q E => ∃ (G : Hp) (rs : List R) (w : Pw), Ex G H ∧ Paired (AR K G) vs rs ∧ PwOk G w H ∧ match F rs w with
  | .ok r w' => ∀ v G' H', FStp G w H G' w' H' → PwOk G' w' H' → FRel K H G' w' H' v r → Q v H'
  | .err x w' => ∀ cls d G' H', FStp G w H G' w' H' → PwOk G' w' H' → XRel K cl x cls d G' → E cls d H'
  | .stuck => False
def fUser (F : List R → Pw → FRes) (fs : M (List R)) : M R := bnd fs fun rs s => match F rs s.w with
  | .ok r w' => .ok r { s with w := w' }
  | .err x w' => .err x { s with w := w' }
  | .stuck => .stuck
section
variable {K : PySem.W.Frag} {G H G' H' : Hp} {s : DSt} {σ : L2.St} {w' : Pw}
theorem call_stp (S : SA K G s σ H) (f : FStp G s.w H G' w' H') (pw : PwOk G' w' H') : Stp G s σ H G' { s with w := w' } σ H' ∧ SA K G' { s with w := w' } σ H' := by
  have own : ∀ i a, OwnAt s σ i a → H a ≠ none ∧ ¬ POwn s.w a := fun i a z => ⟨by obtain ⟨xs, e⟩ := S.ownH (.inl ⟨i, z⟩); rw [e]; simp, S.pne i a z⟩
  refine ⟨⟨f.ex, fun a o h n => f.keep a o h fun z => n (.inr z), fun a z => ?_, f.dom, f.pw⟩, ⟨S.len, f.gh, fun i sl h => ?_, S.inj, fun i a z => ?_, pw, fun i a z q => ?_⟩⟩
  · rcases z with z | z
    · exact .inl (.inl z)
    · exact (f.own a z).imp .inr id
  · have q := S.slot i sl h
    cases sl with
    | no => trivial
    | val d => obtain ⟨v, e, hd⟩ := q; exact ⟨v, e, dp_mono f.ex _ _ hd⟩
    | raw v => exact q
    | ob o => obtain ⟨v, e, hd⟩ := q; exact ⟨v, e, ob_mono f.ex hd⟩
    | own es =>
      obtain ⟨a, xs, e, ha, hh⟩ := q
      have e' : σ[i]? = some (some (.ref a)) := by
        cases z : σ[i]? with
        | none => rw [z] at e; cases e
        | some o => rw [z] at e; simp at e; rw [e]
      exact ⟨a, xs, e, (f.keep a _ ha (own i a ⟨⟨es, h⟩, e'⟩).2).1, dps_mono f.ex _ _ hh⟩
  · obtain ⟨xs, e⟩ := S.ownH (.inl ⟨i, z⟩)
    rw [(f.keep a _ e (own i a z).2).2]
    exact S.ownG i a z
  · rcases f.own a q with q | q
    · exact (own i a z).2 q
    · exact (own i a z).1 q
end
section
variable {X : Cx} {cl : String → Addr} {W : WX} {e : Expr} {es : List Expr} {fs : M (List R)} {pos : Pos}
theorem user_reads {K : PySem.W.Frag} {F : List R → Pw → FRes} {σ : L2.St} {H : Hp} {Q : VK} (q : tD K cl W (fUser F fs) σ H Q) : tCallS (spF K cl F) (WE W) (tAe K cl W fs) σ H Q := by
  obtain ⟨G, s, S, q⟩ := q
  refine ⟨G, s, S, out_mono (out_bind q) fun rs G1 s1 H1 st1 S1 k vs hv => ⟨G1, rs, s1.w, S1.gh, hv, S1.pw, ?_⟩⟩
  cases z : F rs s1.w with
  | ok r w' =>
    rw [z] at k
    intro v G' H' f pw fr
    obtain ⟨st, S'⟩ := call_stp S1 f pw
    refine k G' H' st S' v ?_
    cases r with
    | val d => exact fr
    | raw u => exact fr
    | ob o => exact fr
    | slot i => exact fr.elim
    | new ds =>
      obtain ⟨a, xs, e, ha, hd, hg, h0, hn⟩ := fr
      refine ⟨a, xs, e, ha, hd, hg, Classical.byContradiction fun z => st1.dom a z h0, fun z => ?_⟩
      rcases z with ⟨i, z⟩ | z
      · obtain ⟨ys, e2⟩ := S1.ownH (.inl ⟨i, z⟩)
        rw [h0] at e2; cases e2
      · exact hn z
  | err x w' =>
    rw [z] at k
    intro cls d G' H' f pw xr
    obtain ⟨st, S'⟩ := call_stp S1 f pw
    exact k cls d G' H' st S' xr
  | stuck => rw [z] at k; exact k
theorem d_user {F : List R → Pw → FRes} {k : Nat} {f : Addr} {fd : FuncData} {ps : List Str} {x : Str} {p : Pos} (hF : FnG X.prog X.w X.K X.mg X.base (L2.CX X.prog X.w) k f fd ps (spF X.K cl F)) (hr : RoomG k X.A) (hg : Gl X x) (hm : X.mg x = some (.ref f)) (hk : PySem.W.keepIn X.K (.ref f) = true) (hb : Binds X.K fd ps [])
    (hx : ∀ σ, PassesAt (L2.CX X.prog X.w) X σ (WE W σ)) (ha : DAe X cl W (e :: es) fs) (hdb : (x == ("__debug__" : Str)) = false := by decide) (he : starEach (e :: es) X.env = (false, eval e X.env) :: starEach es X.env := by rfl) (hpl : (backTo pos (starEach es X.env)).any (·.1) = false := by rfl) :
    DE X cl W (.Call (.Name x p) (e :: es) [] pos) (fUser F fs) := pe_imp (pe_callG hF hr hg hm hk hb hx ha hdb he hpl) fun σ H Q q => user_reads q
theorem passA0 {X : Cx} (σ : L2.St) : PassesAt (L2.CX X.prog X.w) X σ (WE W0 σ) := fun _ _ _ _ _ _ h => by
  obtain ⟨_, _, _, _, _, _, _, _, _, _, _, _, z⟩ := h
  exact z.elim
end
/-! ### a def -/
def toSl : R → Sl
  | .val d => .val d
  | .raw v => .raw v
  | .ob o => .ob o
  | _ => .no
def finR (r : R) (s : DSt) : Option R := match r with
  | .slot i => match s.d[i]? with
    | some (.own ds) => some (.new ds)
    | some (.val d) => some (.val d)
    | _ => none
  | r => some r
def runF (n nps : Nat) (p : DSt → Flow) : List R → Pw → FRes := fun rs w => if rs.length = nps then match p ⟨rs.map toSl ++ List.replicate (n - nps) .no, w⟩ with
  | .next s => .ok (.val .none) s.w
  | .ret r s => match finR r s with
    | some r' => .ok r' s.w
    | none => .stuck
  | .err x s => .err x s.w
  | _ => .stuck
  else .stuck
section
variable {K : PySem.W.Frag} {cl : String → Addr}
theorem pair_len {G : Hp} : ∀ {vs : List V} {rs : List R}, Paired (AR K G) vs rs → vs.length = rs.length
  | _, _, .nil => rfl
  | _, _, .cons _ t => by simp [pair_len t]
theorem pair_get {G : Hp} : ∀ {vs : List V} {rs : List R} {i : Nat} {r : R}, Paired (AR K G) vs rs → rs[i]? = some r → ∃ v, vs[i]? = some v ∧ AR K G v r
  | _, _, _, _, .nil, e => by simp at e
  | _, _, 0, r, .cons h t, e => by simp at e; subst e; exact ⟨_, rfl, h⟩
  | _, _, i + 1, r, .cons h t, e => by simpa using pair_get (i := i) t (by simpa using e)
theorem start_sa {G H : Hp} {N : List Str} {vs : List V} {rs : List R} {w : Pw} {nps : Nat} (gh : Ex G H) (hv : Paired (AR K G) vs rs) (pw : PwOk G w H) (hn : rs.length = nps) (hN : nps ≤ N.length) : SA K G ⟨rs.map toSl ++ List.replicate (N.length - nps) .no, w⟩ (L2.start N vs) H := by
  have hl := pair_len hv
  have no : ∀ (i : Nat) ds, (rs.map toSl ++ List.replicate (N.length - nps) Sl.no)[i]? ≠ some (.own ds) := by
    intro i ds e
    rw [List.getElem?_append] at e
    split at e
    · rw [List.getElem?_map] at e
      cases q : rs[i]? with
      | none => rw [q] at e; cases e
      | some r => rw [q] at e; cases r <;> cases e
    · rw [List.getElem?_replicate] at e
      split at e <;> cases e
  refine ⟨by simp [L2.start, hl]; omega, gh, fun i sl h => ?_, fun i j a h _ => ?_, fun i a h => ?_, pw, fun i a h => ?_⟩
  · cases sl with
    | no => trivial
    | own ds => exact (no i ds h).elim
    | val d =>
      simp only [List.getElem?_append] at h
      split at h
      · rename_i hi
        rw [List.getElem?_map] at h
        cases q : rs[i]? with
        | none => rw [q] at h; cases h
        | some r =>
          rw [q] at h
          obtain ⟨v, e, ar⟩ := pair_get hv q
          have hi' : i < (vs.map some).length := by simp at hi ⊢; omega
          cases r with
          | val d' =>
            cases h
            refine ⟨v, ?_, ar⟩
            simp only [L2.start, List.getElem?_append, hi', if_true, List.getElem?_map, e]
            rfl
          | raw u => cases h
          | ob u => cases h
          | new u => cases h
          | slot u => cases h
      · rw [List.getElem?_replicate] at h
        split at h <;> cases h
    | ob d =>
      simp only [List.getElem?_append] at h
      split at h
      · rename_i hi
        rw [List.getElem?_map] at h
        cases q : rs[i]? with
        | none => rw [q] at h; cases h
        | some r =>
          rw [q] at h
          obtain ⟨v, e, ar⟩ := pair_get hv q
          have hi' : i < (vs.map some).length := by simp at hi ⊢; omega
          cases r with
          | ob d' =>
            cases h
            refine ⟨v, ?_, ar⟩
            simp only [L2.start, List.getElem?_append, hi', if_true, List.getElem?_map, e]
            rfl
          | raw u => cases h
          | val u => cases h
          | new u => cases h
          | slot u => cases h
      · rw [List.getElem?_replicate] at h
        split at h <;> cases h
    | raw u =>
      simp only [List.getElem?_append] at h
      split at h
      · rename_i hi
        rw [List.getElem?_map] at h
        cases q : rs[i]? with
        | none => rw [q] at h; cases h
        | some r =>
          rw [q] at h
          obtain ⟨v, e, ar⟩ := pair_get hv q
          have hi' : i < (vs.map some).length := by simp at hi ⊢; omega
          cases r with
          | raw u' =>
            cases h
            have ar : v = _ := ar
            subst ar
            show (L2.start N vs)[i]?.join = _
            simp only [L2.start, List.getElem?_append, hi', if_true, List.getElem?_map, e]
            rfl
          | val u => cases h
          | ob u => cases h
          | new u => cases h
          | slot u => cases h
      · rw [List.getElem?_replicate] at h
        split at h <;> cases h
  · obtain ⟨⟨ds, e⟩, _⟩ := h; exact (no i ds e).elim
  · obtain ⟨⟨ds, e⟩, _⟩ := h; exact (no i ds e).elim
  · obtain ⟨⟨ds, e⟩, _⟩ := h; exact (no i ds e).elim
theorem start_own {rs : List R} {n : Nat} {w : Pw} {σ : L2.St} {a : Addr} (h : Own ⟨rs.map toSl ++ List.replicate n .no, w⟩ σ a) : POwn w a := by
  rcases h with ⟨i, ⟨ds, e⟩, _⟩ | h
  · exfalso
    simp only [List.getElem?_append] at e
    split at e
    · rw [List.getElem?_map] at e
      cases q : rs[i]? with
      | none => rw [q] at e; cases e
      | some r => rw [q] at e; cases r <;> cases e
    · rw [List.getElem?_replicate] at e
      split at e <;> cases e
  · exact h
theorem fstp_of {G H G' H' : Hp} {rs : List R} {n : Nat} {w : Pw} {σ σ' : L2.St} {s' : DSt} (st : Stp G ⟨rs.map toSl ++ List.replicate n .no, w⟩ σ H G' s' σ' H') (S' : SA K G' s' σ' H') : FStp G w H G' s'.w H' :=
  ⟨st.ex, S'.gh, fun a o h nw => st.keep a o h fun z => nw (start_own z), fun a z => (st.own a (.inr z)).imp start_own id, st.dom, st.pw⟩
theorem def_ok {P : Program} {w : World} {mg : Str → Option Value} {base : Heap} {x qual : Str} {st : Stmt} {f : Addr} {fd : FuncData} {N ps : List Str} {k : Nat} {p : DSt → Flow} (F : Fun K x qual st f fd) (S : FnScope N ps (defScope st)) (hN : ps.length ≤ N.length)
    (hb : ∀ (cdv : Value) (A : Around) (outer : List Env) (s : Shared) (H : Hp) (E : XK), RoomG k (A.deeper (envOfC qual (defScope st) s.heap.objs.size f cdv)) →
      DSs (cxOf (L2.CX P w) P w K mg base N qual (defScope st) f cdv A outer s H E) cl (fun cls d _ H => E cls d H) (defBody st) p) : FnG P w K mg base (L2.CX P w) (k + 1) f fd ps (spF K cl (runF N.length ps.length p)) := by
  have hlen : ∀ {rs : List R} {w : Pw}, (match runF N.length ps.length p rs w with | .stuck => False | _ => True) → rs.length = ps.length := by
    intro rs w h
    unfold runF at h
    split at h
    · exact h.elim
    · rename_i z
      by_cases q : rs.length = ps.length
      · exact q
      · rw [if_neg q] at z; exact absurd rfl z
  refine okG F S (fun vs H Q E h => ?_) fun cdv A outer s H vs Q E hr h => ⟨_, hb cdv A outer s H E hr, ?_⟩
  · obtain ⟨G, rs, w, gh, hv, pw, k⟩ := h
    rw [pair_len hv]
    refine hlen (w := w) ?_
    cases z : runF N.length ps.length p rs w with
    | ok r w' => trivial
    | err x w' => trivial
    | stuck => rw [z] at k; exact k
  · obtain ⟨G, rs, w, gh, hv, pw, k⟩ := h
    have hn : rs.length = ps.length := by
      refine hlen (w := w) ?_
      cases z : runF N.length ps.length p rs w with
      | ok r w' => trivial
      | err x w' => trivial
      | stuck => rw [z] at k; exact k
    refine ⟨G, ⟨rs.map toSl ++ List.replicate (N.length - ps.length) .no, w⟩, show SA K G _ (L2.start N vs) H from start_sa gh hv pw hn hN, ?_⟩
    unfold runF at k
    rw [if_pos hn] at k
    cases z : p ⟨rs.map toSl ++ List.replicate (N.length - ps.length) .no, w⟩ with
    | next s' => rw [z] at k; exact fun G' σ' H' st S' => k .non G' H' (fstp_of st S') S'.pw .non
    | brk s' => rw [z] at k; exact k.elim
    | cnt s' => rw [z] at k; exact k.elim
    | stuck => rw [z] at k; exact k.elim
    | err x s' => rw [z] at k; exact fun cls d G' σ' H' st S' xr => k cls d G' H' (fstp_of st S') S'.pw xr
    | ret r s' =>
      rw [z] at k
      intro v G' σ' H' st S' rr
      cases r with
      | val d => exact k v G' H' (fstp_of st S') S'.pw rr
      | raw u => exact k v G' H' (fstp_of st S') S'.pw rr
      | ob o => exact k v G' H' (fstp_of st S') S'.pw rr
      | new ds =>
        refine k v G' H' (fstp_of st S') S'.pw ?_
        obtain ⟨a, xs, e, ha, hd, hg, h0, hn⟩ := rr
        exact ⟨a, xs, e, ha, hd, hg, h0, fun z => hn (.inr z)⟩
      | slot i =>
        have rr : σ'[i]? = some (some v) := rr
        dsimp only [finR] at k
        cases q : s'.d[i]? with
        | none => rw [q] at k; exact k.elim
        | some sl =>
          rw [q] at k
          cases sl with
          | no => exact k.elim
          | raw u => exact k.elim
          | ob o => exact k.elim
          | val d =>
            refine k v G' H' (fstp_of st S') S'.pw ?_
            obtain ⟨u, e, hd⟩ := S'.slot i _ q
            rw [rr] at e
            cases e
            exact hd
          | own ds =>
            refine k v G' H' (fstp_of st S') S'.pw ?_
            obtain ⟨a, xs, e, ha, hd⟩ := S'.slot i _ q
            rw [rr] at e
            cases e
            have ho : OwnAt s' σ' i a := ⟨⟨ds, q⟩, rr⟩
            refine ⟨a, xs, rfl, ha, hd, S'.ownG i a ho, ?_, S'.pne i a ho⟩
            rcases st.own a (.inl ⟨i, ho⟩) with z | z
            · have z := start_own z
              exact absurd (st.pw a z) (S'.pne i a ho)
            · exact z
end
end DL

/-! DL11: methods of lists, isinstance, small statements -/
noncomputable section
namespace DL
open PySem L2 PyProof.Rows
open Evl (Ex)
section
variable {K : PySem.W.Frag} {G H : Hp} {s : DSt} {σ : L2.St}
theorem own_write {i : Nat} {ds ds' : List PyData} {a : Addr} {xs' : List V} (S : SA K G s σ H) (h : s.d[i]? = some (.own ds)) (e : σ[i]? = some (some (.ref a))) (hd : RpAll K G xs' ds') :
    Stp G s σ H G (putS i (.own ds') s) σ (upd H a (.lst xs')) ∧ SA K G (putS i (.own ds') s) σ (upd H a (.lst xs')) := by
  have il : i < s.d.length := (List.getElem?_eq_some_iff.mp h).1
  have ho : OwnAt s σ i a := ⟨⟨ds, h⟩, e⟩
  have hg := S.ownG i a ho
  have od : ∀ j b, OwnAt (putS i (.own ds') s) σ j b → OwnAt s σ j b := by
    rintro j b ⟨⟨es, q⟩, z⟩
    by_cases w : j = i
    · subst w; exact ⟨⟨ds, h⟩, z⟩
    · simp only [putS, List.getElem?_set_ne (Ne.symm w)] at q; exact ⟨⟨es, q⟩, z⟩
  have ow : ∀ b, Own (putS i (.own ds') s) σ b → Own s σ b := fun b z => z.imp (fun ⟨j, z⟩ => ⟨j, od j b z⟩) id
  refine ⟨⟨Ex.refl G, fun b o hb nb => ⟨?_, rfl⟩, fun b z => .inl (ow b z), fun b hb => ?_, fun _ z => z⟩, ⟨by simp [putS, S.len], fun b u hb => ?_, fun j sl hj => ?_, fun j k b h1 h2 => S.inj j k b (od j b h1) (od k b h2), fun j b z => S.ownG j b (od j b z), ?_, fun j b z => S.pne j b (od j b z)⟩⟩
  · rw [upd_ne fun z => nb (by subst z; exact .inl ⟨i, ho⟩)]; exact hb
  · by_cases z : b = a
    · subst z; rw [upd_same]; simp
    · rw [upd_ne z]; exact hb
  · rw [upd_ne fun z => by subst z; rw [hg] at hb; cases hb]; exact S.gh b u hb
  · by_cases w : j = i
    · subst w
      simp only [putS, List.getElem?_set_self il] at hj
      cases hj
      exact ⟨a, xs', by rw [e] <;> rfl, upd_same, hd⟩
    · simp only [putS, List.getElem?_set_ne (Ne.symm w)] at hj
      have q := S.slot j sl hj
      cases sl with
      | no => trivial
      | val d => exact q
      | raw v => exact q
      | ob o => exact q
      | own es =>
        obtain ⟨b, ys, e2, hb, hh⟩ := q
        refine ⟨b, ys, e2, ?_, hh⟩
        have e3 : σ[j]? = some (some (.ref b)) := by
          cases z : σ[j]? with
          | none => rw [z] at e2; cases e2
          | some o => rw [z] at e2; simp at e2; rw [e2]
        rw [upd_ne fun z => w (by subst z; exact S.inj j i b ⟨⟨es, hj⟩, e3⟩ ho)]
        exact hb
  · have q := S.pw
    have pn := S.pne i a ho
    unfold PwOk at q ⊢
    split
    · trivial
    · rename_i pa ca cells t e4
      have e4 : s.w = some (pa, ca, cells, t) := e4
      rw [e4] at q pn
      exact ⟨q.1, by rw [upd_ne fun z => pn (.inl z.symm)]; exact q.2.1, by rw [upd_ne fun z => pn (.inr z.symm)]; exact q.2.2.1, q.2.2.2⟩
theorem own_at {i : Nat} {ds : List PyData} (S : SA K G s σ H) (h : s.d[i]? = some (.own ds)) : ∃ a xs, σ[i]? = some (some (.ref a)) ∧ H a = some (.lst xs) ∧ RpAll K G xs ds := by
  obtain ⟨a, xs, e, ha, hd⟩ := S.slot i _ h
  refine ⟨a, xs, ?_, ha, hd⟩
  cases z : σ[i]? with
  | none => rw [z] at e; cases e
  | some o => rw [z] at e; simp at e; rw [e]
end
theorem intsAre_vals' : ∀ {ns : List Int} {us : List Value}, Vals (ns.map V.int) us → PyProof.Rows.IntsAre us ns
  | [], _, .nil => .nil
  | n :: ns, _, .cons r t => by
    obtain ⟨k, rfl⟩ := r
    exact .cons n k (intsAre_vals' t)
def isOwn (i : Nat) (s : DSt) : Bool := match s.d[i]? with
  | some (.own _) => true
  | _ => false
def fApp (i : Nat) (f : M R) : M R := fun s => if isOwn i s then bnd f (fun r => bnd (fEsc r) fun r' s' => match r', s'.d[i]? with
    | .val d, some (.own ds) => if ltS (ds.length) then .ok (.val .none) (putS i (.own (ds ++ [d])) s') else .stuck
    | _, _ => .stuck) s
  else .stuck
theorem isOwn_get {i : Nat} {s : DSt} (h : isOwn i s = true) : ∃ ds, s.d[i]? = some (.own ds) := by
  unfold isOwn at h
  split at h
  · exact ⟨_, by assumption⟩
  · cases h
section
variable {X : Cx} {cl : String → Addr} {W : WX} {e a b c : Expr} {es : List Expr} {f g : M R} {fs : M (List R)} {pos : Pos} {p q : DSt → Flow}
theorem d_append {i : Nat} {x : Expr} {ap cp : Pos} (hx : PE X x (tVar i)) (ha : DE X cl W e f) (hbase : attributeBase x "append" X.env (eval x X.env) = eval x X.env := by rfl)
    (hfew : ((backTo cp (starEach [e] X.env)).all (fun x => !x.1) && (backToKw cp (keywordEach [] X.env)).all (fun x => x.1.isSome) && decide (([e] : List Expr).length + ([] : List Keyword).length + (if ([] : List Keyword).isEmpty then 0 else 1) < 30)) = true := by rfl)
    (hline : (ap.endLine == cp.line) = true := by rfl) (hs : starEach [e] X.env = (false, eval e X.env) :: starEach [] X.env := by rfl) (hplain : (backTo cp (starEach [] X.env)).any (·.1) = false := by rfl) :
    DE X cl W (.Call (.Attribute x "append" ap) [e] [] cp) (fApp i f) := by
  refine pe_imp (pe_bm PySem.F.plainAttrs_list PySem.F.slot_list_append PySem.F.type_list_append mt_append hx (pa_cons ha pa_nil hs) hbase hfew hline hs hplain) fun σ H Q ⟨G, s, S, q⟩ => ?_
  unfold fApp at q
  split at q
  rotate_left
  · exact q.elim
  rename_i ho
  obtain ⟨ds0, h0⟩ := isOwn_get ho
  obtain ⟨l, xs0, el, hl0, _⟩ := own_at S h0
  refine ⟨.ref l, el, .inl ⟨rfl, _, .of hl0⟩, G, s, S, ?_⟩
  refine out_mono (out_esc q) fun r G1 s1 H1 st1 S1 k v rr => ?_
  obtain ⟨G2, s2, r2, st2, S2, ar, ex, k2⟩ := k v rr
  split at k2
  · rename_i d ds h2
    split at k2
    · rename_i hz
      obtain ⟨l2, xs, el2, hl2, hd2⟩ := own_at S2 h2
      rw [el] at el2
      cases el2
      obtain ⟨st3, S3⟩ := own_write S2 h2 el (dps_app hd2 (.cons ar .nil))
      exact ⟨l, xs, v, rfl, rfl, hl2, by rw [dps_len hd2]; exact hz, k2 _ _ st3 S3 _ .non⟩
    · exact k2.elim
  · exact k2.elim
def fPop (i : Nat) : M R := fun s => match s.d[i]? with
  | some (.own ds) => match ds[ds.length - 1]? with
    | some d => .ok (.val d) (putS i (.own ds.dropLast) s)
    | none => .stuck
  | _ => .stuck
theorem dps_at {K : PySem.W.Frag} {G : Hp} {ds : List PyData} {vs : List V} {i : Nat} {d : PyData} (h : RpAll K G vs ds) (e : ds[i]? = some d) : ∃ v, vs[i]? = some v ∧ Rp K G v d := by
  have hi : i < vs.length := by rw [dps_len h]; exact (List.getElem?_eq_some_iff.mp e).1
  obtain ⟨d', e', r⟩ := dps_get h (List.getElem?_eq_getElem hi)
  rw [e] at e'
  cases e'
  exact ⟨_, List.getElem?_eq_getElem hi, r⟩
def fPopAt (i : Nat) (f : M R) : M R := fun s => if isOwn i s then bnd f (fun r s' => match look r s', s'.d[i]? with
    | some (.int k), some (.own ds) => match ixN ds.length k with
      | some j => match ds[j]? with
        | some d => if inW k then .ok (.val d) (putS i (.own (ds.eraseIdx j)) s') else .stuck
        | none => .stuck
      | none => .stuck
    | _, _ => .stuck) s
  else .stuck
theorem d_popAt {i : Nat} {x : Expr} {ap cp : Pos} (hx : PE X x (tVar i)) (ha : DE X cl W e f) (hbase : attributeBase x "pop" X.env (eval x X.env) = eval x X.env := by rfl)
    (hfew : ((backTo cp (starEach [e] X.env)).all (fun x => !x.1) && (backToKw cp (keywordEach [] X.env)).all (fun x => x.1.isSome) && decide (([e] : List Expr).length + ([] : List Keyword).length + (if ([] : List Keyword).isEmpty then 0 else 1) < 30)) = true := by rfl)
    (hline : (ap.endLine == cp.line) = true := by rfl) (hs : starEach [e] X.env = (false, eval e X.env) :: starEach [] X.env := by rfl) (hplain : (backTo cp (starEach [] X.env)).any (·.1) = false := by rfl) :
    DE X cl W (.Call (.Attribute x "pop" ap) [e] [] cp) (fPopAt i f) := by
  refine pe_imp (pe_bm PySem.F.plainAttrs_list PySem.F.slot_list_pop PySem.F.type_list_pop mt_popAt hx (pa_cons ha pa_nil hs) hbase hfew hline hs hplain) fun σ H Q ⟨G, s, S, q⟩ => ?_
  unfold fPopAt at q
  split at q
  rotate_left
  · exact q.elim
  rename_i ho
  obtain ⟨ds0, h0⟩ := isOwn_get ho
  obtain ⟨l, xs0, el, hl0, _⟩ := own_at S h0
  refine ⟨.ref l, el, .inl ⟨rfl, _, .of hl0⟩, G, s, S, ?_⟩
  refine out_mono (out_bind q) fun r G1 s1 H1 st1 S1 k v rr => ?_
  split at k
  · rename_i n ds e1 h1
    obtain rfl := dq_int (look_q S1 rr e1)
    split at k
    · rename_i j ej
      split at k
      · rename_i d ed
        split at k
        · rename_i hb
          obtain ⟨l2, xs, el2, hl2, hd2⟩ := own_at S1 h1
          rw [el] at el2
          cases el2
          obtain ⟨u, eu, ru⟩ := dps_at hd2 ed
          obtain ⟨st3, S3⟩ := own_write S1 h1 el (dps_erase j hd2)
          have hj := (ixN_seq ej).1
          exact ⟨l, xs, n, j, u, rfl, rfl, hl2, hb.1, hb.2, by rw [dps_len hd2]; exact hj, eu, k _ _ st3 S3 u ru⟩
        · exact k.elim
      · exact k.elim
    · exact k.elim
  · exact k.elim
def fIns (i : Nat) (fs : M (List R)) : M R := fun s => if isOwn i s then bnd fs (fun rs s' => match rs, s'.d[i]? with
    | [.val (.int k), .val d], some (.own ds) => if 0 ≤ k ∧ inW k ∧ ltS (ds.length) then .ok (.val .none) (putS i (.own (ds.take k.toNat ++ [d] ++ ds.drop k.toNat)) s') else .stuck
    | _, _ => .stuck) s
  else .stuck
theorem d_insert {i : Nat} {x : Expr} {ap cp : Pos} (hx : PE X x (tVar i)) (ha : DAe X cl W (a :: [b]) fs) (hbase : attributeBase x "insert" X.env (eval x X.env) = eval x X.env := by rfl)
    (hfew : ((backTo cp (starEach [a, b] X.env)).all (fun x => !x.1) && (backToKw cp (keywordEach [] X.env)).all (fun x => x.1.isSome) && decide (([a, b] : List Expr).length + ([] : List Keyword).length + (if ([] : List Keyword).isEmpty then 0 else 1) < 30)) = true := by rfl)
    (hline : (ap.endLine == cp.line) = true := by rfl) (hs : starEach [a, b] X.env = (false, eval a X.env) :: starEach [b] X.env := by rfl) (hplain : (backTo cp (starEach [b] X.env)).any (·.1) = false := by rfl) :
    DE X cl W (.Call (.Attribute x "insert" ap) [a, b] [] cp) (fIns i fs) := by
  refine pe_imp (pe_bm PySem.F.plainAttrs_list PySem.F.slot_list_insert PySem.F.type_list_insert mt_insert hx ha hbase hfew hline hs hplain) fun σ H Q ⟨G, s, S, q⟩ => ?_
  unfold fIns at q
  split at q
  rotate_left
  · exact q.elim
  rename_i ho
  obtain ⟨ds0, h0⟩ := isOwn_get ho
  obtain ⟨l, xs0, el, hl0, _⟩ := own_at S h0
  refine ⟨.ref l, el, .inl ⟨rfl, _, .of hl0⟩, G, s, S, ?_⟩
  refine out_mono (out_bind q) fun rs G1 s1 H1 st1 S1 k vs hv => ?_
  split at k
  · rename_i n d ds h1
    split at k
    · rename_i hb
      cases hv with
      | cons r1 r2 =>
        cases r2 with
        | cons r2 r3 =>
          cases r3
          cases (show Rp X.K G1 _ (.int n) from r1)
          obtain ⟨l2, xs, el2, hl2, hd2⟩ := own_at S1 h1
          rw [el] at el2
          cases el2
          obtain ⟨st3, S3⟩ := own_write S1 h1 el (dps_app (dps_app (dps_take n.toNat hd2) (.cons r2 .nil)) (dps_drop n.toNat hd2))
          exact ⟨l, xs, n, _, rfl, rfl, hl2, by rw [dps_len hd2]; exact hb.2.2, hb.1, hb.2.1.2, k _ _ st3 S3 _ .non⟩
    · exact k.elim
  · exact k.elim
def fRem (i : Nat) (f : M R) : M R := fun s => if isOwn i s then bnd f (fun r s' => match look r s', s'.d[i]? with
    | some (.int k), some (.own ds) => match intsD ds with
      | some ns => match ns.findIdx? (· == k) with
        | some j => .ok (.val .none) (putS i (.own ((ns.eraseIdx j).map .int)) s')
        | none => .stuck
      | none => .stuck
    | _, _ => .stuck) s
  else .stuck
theorem d_remove {i : Nat} {x : Expr} {ap cp : Pos} (hx : PE X x (tVar i)) (ha : DE X cl W e f) (hbase : attributeBase x "remove" X.env (eval x X.env) = eval x X.env := by rfl)
    (hfew : ((backTo cp (starEach [e] X.env)).all (fun x => !x.1) && (backToKw cp (keywordEach [] X.env)).all (fun x => x.1.isSome) && decide (([e] : List Expr).length + ([] : List Keyword).length + (if ([] : List Keyword).isEmpty then 0 else 1) < 30)) = true := by rfl)
    (hline : (ap.endLine == cp.line) = true := by rfl) (hs : starEach [e] X.env = (false, eval e X.env) :: starEach [] X.env := by rfl) (hplain : (backTo cp (starEach [] X.env)).any (·.1) = false := by rfl) :
    DE X cl W (.Call (.Attribute x "remove" ap) [e] [] cp) (fRem i f) := by
  refine pe_imp (pe_bm PySem.F.plainAttrs_list PySem.F.slot_list_remove PySem.F.type_list_remove mt_remove hx (pa_cons ha pa_nil hs) hbase hfew hline hs hplain) fun σ H Q ⟨G, s, S, q⟩ => ?_
  unfold fRem at q
  split at q
  rotate_left
  · exact q.elim
  rename_i ho
  obtain ⟨ds0, h0⟩ := isOwn_get ho
  obtain ⟨l, xs0, el, hl0, _⟩ := own_at S h0
  refine ⟨.ref l, el, .inl ⟨rfl, _, .of hl0⟩, G, s, S, ?_⟩
  refine out_mono (out_bind q) fun r G1 s1 H1 st1 S1 k v rr => ?_
  split at k
  · rename_i n ds e1 h1
    obtain rfl := dq_int (look_q S1 rr e1)
    split at k
    · rename_i ns en
      split at k
      · rename_i j ej
        obtain ⟨l2, xs, el2, hl2, hd2⟩ := own_at S1 h1
        rw [el] at el2
        cases el2
        have ex := ints_rp hd2 en
        subst ex
        obtain ⟨hj, h3, h4⟩ := List.findIdx?_eq_some_iff_getElem.mp ej
        obtain ⟨st3, S3⟩ := own_write S1 h1 el (rp_ints (K := X.K) (G := G1) (ns.eraseIdx j))
        refine ⟨l, ns, n, j, rfl, rfl, hl2, ?_, fun m hm => ?_, k _ _ st3 S3 _ .non⟩
        · rw [List.getElem?_eq_getElem hj]; simpa using h3
        · have h5 := h4 m hm
          rw [List.getElem?_eq_getElem (by omega)]
          simpa using h5
      · exact k.elim
    · exact k.elim
  · exact k.elim
def fClear (i : Nat) : M R := fun s => match s.d[i]? with
  | some (.own ds) => .ok (.val .none) (putS i (.own []) s)
  | _ => .stuck
def flatD : PyData → Bool
  | .none | .bool _ | .int _ | .str _ => true
  | _ => false
theorem flat_v {K : PySem.W.Frag} {G : Hp} {v : V} {d : PyData} (h : Rp K G v d) (f : flatD d = true) : flatV v = true := by
  cases h <;> first | rfl | cases f
theorem eqv_flat {K : PySem.W.Frag} {G : Hp} {v u : V} {d e : PyData} (h : Rp K G v d) (h2 : Rp K G u e) (f : flatD d = true) (f2 : flatD e = true) : eqV v u = PyData.eqv d e := by
  cases h <;> first | (cases f; done) | (cases h2 <;> first | (cases f2; done) | rfl | simp [eqV, PyData.eqv])
def idxO (ds : List PyData) (d : PyData) : Option Nat := if ds.all flatD && flatD d then ds.findIdx? (fun z => PyData.eqv z d) else none
def isLst (x : R) (s : DSt) : Bool := match look x s with
  | some (.list _) => true
  | _ => false
def fIndex (g f : M R) : M R := bnd g fun x s => if isLst x s then bnd f (fun r s => match look x s, look r s with
  | some (.list ds), some d => match idxO ds d with
    | some j => .ok (.val (.int (j : Nat))) s
    | none => .stuck
  | _, _ => .stuck) s
  else .stuck
theorem isLst_ty {K : PySem.W.Frag} {H0 G H : Hp} {s : DSt} {σ : L2.St} {v : V} {x : R} (S : SA K G s σ H) (h : RRel K H0 G s σ H v x) (e : isLst x s = true) : tyV K "list" v H := by
  unfold isLst at e
  split at e
  · rename_i ds q
    obtain ⟨p, xs, rfl, hp, _⟩ := dq_lst (look_q S h q)
    exact .inl ⟨rfl, _, .of hp⟩
  · cases e
theorem d_index {ap cp : Pos} (hx : DE X cl W a g) (ha : DE X cl W e f) (hbase : attributeBase a "index" X.env (eval a X.env) = eval a X.env := by rfl)
    (hfew : ((backTo cp (starEach [e] X.env)).all (fun x => !x.1) && (backToKw cp (keywordEach [] X.env)).all (fun x => x.1.isSome) && decide (([e] : List Expr).length + ([] : List Keyword).length + (if ([] : List Keyword).isEmpty then 0 else 1) < 30)) = true := by rfl)
    (hline : (ap.endLine == cp.line) = true := by rfl) (hs : starEach [e] X.env = (false, eval e X.env) :: starEach [] X.env := by rfl) (hplain : (backTo cp (starEach [] X.env)).any (·.1) = false := by rfl) :
    DE X cl W (.Call (.Attribute a "index" ap) [e] [] cp) (fIndex g f) := by
  refine pe_imp (pe_bm PySem.F.plainAttrs_list PySem.F.slot_list_index PySem.F.type_list_index mt_index hx (pa_cons ha pa_nil hs) hbase hfew hline hs hplain) fun σ H Q ⟨G, s, S, q⟩ => ?_
  refine ⟨G, s, S, out_mono (out_bind q) fun x G1 s1 H1 st1 S1 k v rr => ?_⟩
  split at k
  rotate_left
  · exact k.elim
  rename_i hl
  refine ⟨isLst_ty S1 rr hl, G1, s1, S1, out_mono (out_bind k) fun r G2 s2 H2 st2 S2 k2 u ru => ?_⟩
  have rr2 := rr.mono st2
  split at k2
  · rename_i ds d e1 e2
    split at k2
    · rename_i j ej
      obtain ⟨p, xs, rfl, hp, hd⟩ := dq_lst (look_q S2 rr2 e1)
      have hu := look_q S2 ru e2
      unfold idxO at ej
      split at ej
      rotate_left
      · cases ej
      rename_i hf
      rw [Bool.and_eq_true] at hf
      have hu' : Rp X.K G2 u d := by
        cases d with
        | list _ => cases hf.2
        | _ => exact hu
      obtain ⟨hj, h3, h4⟩ := List.findIdx?_eq_some_iff_getElem.mp ej
      have hxl := dps_len hd
      have fl : ∀ z ∈ xs, flatV z = true := fun z hz => by
        obtain ⟨m, hm, rfl⟩ := List.mem_iff_getElem.mp hz
        obtain ⟨d', e', r'⟩ := dps_get hd (List.getElem?_eq_getElem hm)
        exact flat_v r' (List.all_eq_true.mp hf.1 _ (List.mem_of_getElem? e'))
      have ev : ∀ (m : Nat) (z : V), xs[m]? = some z → ∃ d', ds[m]? = some d' ∧ eqV z u = PyData.eqv d' d := fun m z hz => by
        obtain ⟨d', e', r'⟩ := dps_get hd hz
        exact ⟨d', e', eqv_flat r' hu' (List.all_eq_true.mp hf.1 _ (List.mem_of_getElem? e')) hf.2⟩
      have hj' : j < xs.length := by omega
      obtain ⟨d1, f1, f2⟩ := ev j _ (List.getElem?_eq_getElem hj')
      rw [List.getElem?_eq_getElem hj] at f1
      cases f1
      refine ⟨p, xs, u, j, xs[j], rfl, rfl, .of hp, flat_v hu' hf.2, List.all_eq_true.mpr fl, List.getElem?_eq_getElem hj', by rw [f2]; exact h3, fun m z hm hz => ?_, k2 G2 H2 Stp.refl S2 _ (.int _)⟩
      obtain ⟨d2, g1, g2⟩ := ev m z hz
      rw [g2]
      have h5 := h4 m hm
      have hm2 : m < ds.length := by omega
      rw [List.getElem?_eq_getElem hm2] at g1
      cases g1
      simpa using h5
    · exact k2.elim
  · exact k2.elim
def tyN : PyData → String
  | .none => "NoneType" | .bool _ => "bool" | .int _ => "int" | .str _ => "str" | .list _ => "list" | .tuple _ => "tuple" | .dict _ => "dict"
theorem ty_of {K : PySem.W.Frag} {G H : Hp} {v : V} {d : PyData} (x : Ex G H) (h : Dq K G H v d) : TyX K H v (.type (tyN d)) := by
  cases d with
  | none => cases (show Rp K G v .none from h); exact .base .non
  | bool b => obtain rfl := dq_bl h; exact .base (.bl b)
  | int b => obtain rfl := dq_int h; exact .base (.int b)
  | str b => obtain rfl := dq_str h; exact .base (.str b)
  | list ds => obtain ⟨p, xs, rfl, hp, _⟩ := dq_lst h; exact .base (.lst hp)
  | tuple ds =>
    obtain ⟨p, xs, rfl, hp, _⟩ := dq_tup x h
    rcases hp with (hp | ⟨o, hp⟩) | ⟨o, its, n, hk, hc, _⟩
    · exact .base (.tup hp)
    · exact .fTuple hp
    · exact .kTuple hk hc
  | dict kvs => cases (show Rp K G v (.dict kvs) from h)
def isN (n a : String) : Bool := n == a || (n == "int" && a == "bool")
def isT (n : String) (d : PyData) : Bool := isN n (tyN d)
def knownT (n : String) : Bool := ["int", "bool", "str", "list", "tuple"].contains n
theorem kit_tab : ∀ n ∈ ["int", "bool", "str", "list", "tuple"], ∀ a ∈ ["NoneType", "bool", "int", "str", "list", "tuple", "dict"], kitB a n = some (isN n a) := by decide +kernel
theorem kit_is {n : String} {d : PyData} (hn : knownT n = true) : kitB (tyN d) n = some (isT n d) :=
  kit_tab n (by simpa [knownT] using hn) _ (by cases d <;> simp [tyN])
def fIsi (n : String) (f : M R) : M R := bnd f fun r s => match look r s with
  | some d => .ok (.val (.bool (isT n d))) s
  | none => .stuck
theorem d_isi {n : Str} {m : String} {p p2 pos : Pos} (hn : knownT m = true) (hg : Gl X "isinstance") (hm : X.mg "isinstance" = none) (ha : DE X cl W e f) (hc : PE X (.Name n p2) (tC (.ty m)))
    (he : starEach (e :: [.Name n p2]) X.env = (false, eval e X.env) :: starEach [.Name n p2] X.env := by rfl) (he2 : starEach [.Name n p2] X.env = (false, eval (.Name n p2) X.env) :: starEach [] X.env := by rfl) (hpl : (backTo pos (starEach [.Name n p2] X.env)).any (·.1) = false := by rfl) :
    DE X cl W (.Call (.Name "isinstance" p) [e, .Name n p2] [] pos) (fIsi m f) := by
  refine pe_imp (pe_callB call_isi hg hm (by decide +kernel) (pa_cons ha (pa_cons hc pa_nil he2) he) (by decide) (by decide) he hpl) fun σ H Q ⟨G, s, S, q⟩ => ?_
  refine ⟨G, s, S, out_mono (out_bind q) fun x G1 s1 H1 st1 S1 k v rr => ?_⟩
  split at k
  · rename_i d e
    exact ⟨v, .ty m, .type (tyN d), .type m, isT m d, rfl, .ty m, ty_of S1.gh (look_q S1 rr e), kit_ty (kit_is hn), k G1 H1 Stp.refl S1 _ (.bl _)⟩
  · exact k.elim
def nubI (ns : List Int) : List Int := PyProof.Rows.firstMet (fun i => ns.getD i 0) ns.length
def fLenSet (f : M R) : M R := bnd f fun r s => match look r s with
  | some (.list ds) => match intsD ds with
    | some ns => if ns.length ≤ 4000 then .ok (.val (.int (nubI ns).length)) s else .stuck
    | none => .stuck
  | _ => .stuck
theorem d_lenSet {p p2 q pos : Pos} (hcalm : X.calm = true) (hg : Gl X "len") (hm : X.mg "len" = none) (hg2 : Gl X "set") (hm2 : X.mg "set" = none) (ha : DE X cl W a f)
    (na : starEach [a] X.env = (false, eval a X.env) :: starEach [] X.env := by rfl) : DE X cl W (.Call (.Name "len" p) [.Call (.Name "set" p2) [a] [] q] [] pos) (fLenSet f) := by
  refine ⟨fun pins s σ H Q I ⟨G, st, S, h⟩ => ?_⟩
  have hc : X.A.handled = none := I.ok.hd hcalm
  refine Call_ (ld_blt I hg hm boot_len ?_)
  refine PyProof.Rows.callWith_builtin1 (PyProof.Rows.args_cons ?_ rfl) rfl rfl
  refine Call_ (ld_blt I hg2 hm2 boot_set ?_)
  have h1 : tD X.K cl W f σ H fun v H1 => ∃ (l : Addr) (ns : List Int), v = .ref l ∧ SqL X.K H1 l (ns.map V.int) ∧ ns.length ≤ 4000 ∧ Q (.int (nubI ns).length) H1 := by
    refine ⟨G, st, S, out_mono (out_bind h) fun x G1 s1 H1 st1 S1 k v rr => ?_⟩
    split at k
    · rename_i ds e1
      split at k
      · rename_i ns en
        split at k
        · rename_i hl
          obtain ⟨l, xs, rfl, hp, hd⟩ := dq_lst (look_q S1 rr e1)
          have ex := ints_rp hd en
          subst ex
          exact ⟨l, ns, rfl, .of hp, hl, k G1 H1 Stp.refl S1 _ (.int _)⟩
        · exact k.elim
      · exact k.elim
    · exact k.elim
  refine PyProof.Rows.callWith_type1 (PyProof.Rows.args_cons (thn (ha.run pins s σ H _ I h1) fun v s1 ⟨x, H1, I1, r1, q1⟩ => PyProof.Rows.args_nil ?_) na) na rfl
  obtain ⟨l, ns, rfl, hq, hl, q1⟩ := q1
  cases r1
  obtain ⟨its, r, pl, hz⟩ := I1.list hq
  have hlen : its.toArray.size = ns.length := by rw [List.size_toArray, ← r.length, List.length_map]
  refine call_set_list hc pl.isList (by simpa using intsAre_vals' r) (by rw [hlen]; unfold scanBound; omega) fun h' tk hS hk => ?_
  refine PyProof.Rows.args_nil ?_
  rw [hlen] at hS
  obtain ⟨o, es, ep, t, ho, hex, hd, _, _, _, hf, hn⟩ := hS
  have I2 : Inv X pins σ H1 { s1 with heap := h', toks := tk } := I1.kept fun b o e => hk b o (Heap.lt_size e) e
  have hnl : (nubI ns).length ≤ ns.length := PyProof.Rows.firstMet_length_le _ _
  exact call_len_set ho hex hd hf (by rw [hn]; unfold nubI at hnl; omega) ⟨.int (nubI ns).length, H1, I2.tok _, ⟨_, by rw [hn] <;> rfl⟩, q1⟩
end
end DL

/-! DL12: more statements; a def by its name -/
noncomputable section
namespace DL
open PySem L2 PyProof.Rows
open Evl (Ex)
def Cal (P : Program) (w : World) (K : PySem.W.Frag) (mg : Str → Option Value) (base : Heap) (cl : String → Addr) (x : Str) (k : Nat) (ps : List Str) (F : List R → Pw → FRes) : Prop :=
  ∃ (f : Addr) (fd : FuncData), FnG P w K mg base (L2.CX P w) k f fd ps (spF K cl F) ∧ mg x = some (.ref f) ∧ PySem.W.keepIn K (.ref f) = true ∧ Binds K fd ps []
def Wr (K : PySem.W.Frag) (mg : Str → Option Value) (x : Str) (st : Stmt) (ps : List Str) : Prop := ∃ (f : Addr) (fd : FuncData), Fun K x x st f fd ∧ mg x = some (.ref f) ∧ Binds K fd ps []
theorem cal_of {P : Program} {w : World} {K : PySem.W.Frag} {mg : Str → Option Value} {base : Heap} {cl : String → Addr} {x : Str} {k : Nat} {N ps : List Str} {st : Stmt} {p : DSt → Flow} (h : Wr K mg x st ps) (S : FnScope N ps (defScope st)) (hN : ps.length ≤ N.length)
    (hb : ∀ (f : Addr) (cdv : Value) (A : Around) (outer : List Env) (s : Shared) (H : Hp) (E : XK), RoomG k (A.deeper (envOfC x (defScope st) s.heap.objs.size f cdv)) →
      DSs (cxOf (L2.CX P w) P w K mg base N x (defScope st) f cdv A outer s H E) cl (fun cls d _ H => E cls d H) (defBody st) p) : Cal P w K mg base cl x (k + 1) ps (runF N.length ps.length p) := by
  obtain ⟨f, fd, F, g, b⟩ := h
  exact ⟨f, fd, def_ok F S hN fun cdv A outer s H E hr => hb f cdv A outer s H E hr, g, F.kp, b⟩
section
variable {X : Cx} {cl : String → Addr} {W : WX} {e a b c : Expr} {es : List Expr} {f g : M R} {fs : M (List R)} {pos : Pos} {p q : DSt → Flow}
theorem d_cal {F : List R → Pw → FRes} {k : Nat} {ps : List Str} {x : Str} {p : Pos} (h : Cal X.prog X.w X.K X.mg X.base cl x k ps F) (hr : RoomG k X.A) (hx : ∀ σ, PassesAt (L2.CX X.prog X.w) X σ (WE W σ)) (ha : DAe X cl W (e :: es) fs) (hg : Gl X x := by rfl) (hdb : (x == ("__debug__" : Str)) = false := by decide)
    (he : starEach (e :: es) X.env = (false, eval e X.env) :: starEach es X.env := by rfl) (hpl : (backTo pos (starEach es X.env)).any (·.1) = false := by rfl) : DE X cl W (.Call (.Name x p) (e :: es) [] pos) (fUser F fs) := by
  obtain ⟨f, fd, ok, g, kp, b⟩ := h
  exact d_user ok hr hg g kp b hx ha hdb he hpl
def fAug (i : Nat) (o : Int → Int → Int) (f : M R) : DSt → Flow := fun s => match s.d[i]? with
  | some (.val (.int a)) => onRes (f s) fun r s' => match look r s' with
    | some (.int b) => if i < s'.d.length then .next (putS i (.val (.int (o a b))) s') else .stuck
    | _ => .stuck
  | _ => .stuck
theorem s_aug {i : Nat} {x : Str} {op : Operator} {o : Int → Int → Int} {pos' : Pos} (hN : X.N.Nodup) (hi : X.N[i]? = some x) (hx : Loc X.env.scope x) (he : DE X cl W e f) (ho : PIp X op (ipI o)) (hf : X.fn x = true ∨ X.env.scope.names.lookup x = some .local := by first | exact .inl rfl | exact .inr rfl | assumption) :
    DS X cl W (.AugAssign (.Name x pos') op e pos) (fAug i o f) := by
  refine ps_imp (ps_aug hN hi hx he ho hf) fun D σ H ⟨G, s, S, h⟩ => ?_
  unfold fAug at h
  split at h
  · rename_i a q
    obtain ⟨v, e1, hd⟩ := S.slot i _ q
    cases hd
    have e2 : σ[i]? = some (some (.int a)) := by
      cases z : σ[i]? with
      | none => rw [z] at e1; cases e1
      | some o => rw [z] at e1; simp at e1; rw [e1]
    refine ⟨_, e2, G, s, S, out_mono (fout_res h) fun r G1 s1 H1 st1 S1 k v rr => ?_⟩
    split at k
    · rename_i b e3
      obtain rfl := dq_int (look_q S1 rr e3)
      split at k
      · rename_i hl
        exact ⟨a, b, rfl, rfl, k G1 _ H1 (put_stp S1 st1 hl (by intro _ _ z; cases z)) (put_ok S1 hl ⟨_, rfl, .int _⟩ (by intro _ _ z; cases z))⟩
      · exact k.elim
    · exact k.elim
  · exact h.elim
def fSetIx (i : Nat) (f g : M R) : DSt → Flow := fun s => onRes (bnd f fEsc s) fun r s1 => if isOwn i s1 then onRes (g s1) fun k s2 => match r, look k s2, s2.d[i]? with
    | .val d, some (.int n), some (.own ds) => match ixN ds.length n with
      | some j => .next (putS i (.own (ds.set j d)) s2)
      | none => .stuck
    | _, _, _ => .stuck
  else .stuck
def fPar (i j : Nat) (fs : M (List R)) : DSt → Flow := fun s => onRes (fs s) fun rs s' => match rs with
  | [r1, r2] => if i < s'.d.length ∧ j < s'.d.length then .next (putS j (toSl r2) (putS i (toSl r1) s')) else .stuck
  | _ => .stuck
theorem pg_or {tg : Expr} {t t' : TG} (h : PG X tg t) (h' : PG X tg t') : PG X tg (fun v σ H Q => t v σ H Q ∨ t' v σ H Q) := ⟨fun pins s σ H v u Q I r q => by
  rcases q with q | q
  · exact h.run pins s σ H v u Q I r q
  · exact h'.run pins s σ H v u Q I r q⟩
def bSeq (n : Nat) (bs : Bds) : Bd := fun d s => match d with
  | .tuple ds => if ds.length = n then bs ds s else none
  | .list ds => if ds.length = n then bs ds s else none
  | _ => none
theorem g_seq {K : PySem.W.Frag} {n : Nat} {gs : TGs} {bs : Bds} {js : List Nat} (h : GsOk K gs bs js) : GOk K (fun v σ H Q => gTup K n gs v σ H Q ∨ gUnl K n gs v σ H Q) (bSeq n bs) js := by
  intro x d G s σ H s' Q S rp e k
  unfold bSeq at e
  split at e
  · rename_i ds
    exact .inl (g_tup (n := n) h x (.tuple ds) G s σ H s' Q S rp e k)
  · rename_i ds
    exact .inr (g_unl (n := n) h x (.list ds) G s σ H s' Q S rp e k)
  · cases e
end
end DL

/-! DL13: the purse: a list of a list of ints and an int, changed by the def that draws -/
noncomputable section
namespace DL
open PySem L2 PyProof.Rows
open Evl (Ex)
section
variable {K : PySem.W.Frag} {G H : Hp} {s : DSt} {σ : L2.St} {pa ca : Addr} {cells : List Int} {t : Int}
end
section
variable {X : Cx} {cl : String → Addr} {W : WX} {e a b c : Expr} {es : List Expr} {f g : M R} {fs : M (List R)} {pos : Pos} {p q : DSt → Flow}
def fUnP (i j k : Nat) : DSt → Flow := fun s => match s.d[i]?, s.w with
  | some (.raw (.ref p)), some (pa, ca, cells, t) => if p = pa ∧ pa ≠ ca ∧ j < s.d.length ∧ k < s.d.length then .next (putS k (.val (.int t)) (putS j (.raw (.ref ca)) s)) else .stuck
  | _, _ => .stuck
def fLenC (i : Nat) : M R := fun s => match s.d[i]?, s.w with
  | some (.raw (.ref c)), some (pa, ca, cells, t) => if c = ca then .ok (.val (.int cells.length)) s else .stuck
  | _, _ => .stuck
def fIxC (i : Nat) (f : M R) : M R := fun s => match s.d[i]? with
  | some (.raw (.ref c)) => bnd f (fun r s' => match s'.w, look r s' with
    | some (pa, ca, cells, t), some (.int n) => if c = ca then match atI cells n with
      | some z => .ok (.val (.int z)) s'
      | none => .stuck
      else .stuck
    | _, _ => .stuck) s
  | _ => .stuck
theorem atI_map {ns : List Int} {n z : Int} (h : atI ns n = some z) : atI (ns.map V.int) n = some (V.int z) := by
  unfold atI at h ⊢
  rw [List.length_map]
  cases q : ixN ns.length n with
  | none => rw [q] at h; cases h
  | some j =>
    rw [q] at h
    have h : ns[j]? = some z := h
    show (ns.map V.int)[j]? = _
    rw [List.getElem?_map, h]
    rfl
def fSetT (i : Nat) (f : M R) : DSt → Flow := fun s => onRes (f s) fun r s' => match s'.d[i]?, s'.w, look r s' with
  | some (.raw (.ref p)), some (pa, ca, cells, t), some (.int n) => if p = pa ∧ pa ≠ ca then .next { s' with w := some (pa, ca, cells, n) } else .stuck
  | _, _, _ => .stuck
def fSetC (i : Nat) (f g : M R) : DSt → Flow := fun s => onRes (f s) fun r s1 => match s1.d[i]? with
  | some (.raw (.ref c)) => onRes (g s1) fun k s2 => match s2.w, look r s1, look k s2 with
    | some (pa, ca, cells, t), some (.int z), some (.int n) => if c = ca then match ixN cells.length n with
      | some j => .next { s2 with w := some (pa, ca, cells.set j z, t) }
      | none => .stuck
      else .stuck
    | _, _, _ => .stuck
  | _ => .stuck
end
end DL

/-! DL14: the purse made; a law -/
noncomputable section
namespace DL
open PySem L2 PyProof.Rows
open Evl (Ex)
def spPurse (K : PySem.W.Frag) : Sp := fun vs H Q _ => ∃ (a : Addr) (ns : List Int), vs = [.ref a] ∧ SqL K H a (ns.map V.int) ∧ ns.length ≤ 63 ∧
  ∀ (pa ca : Addr) (cells : List Int) (H' : Hp), pa ≠ ca → H pa = none → H ca = none → Ex H H' → H' pa = some (.lst [.ref ca, .int 0]) → H' ca = some (.lst (cells.map V.int)) → cells ≠ [] → cells.length ≤ 63 → Q (.ref pa) H'
def spLaw (K : PySem.W.Frag) : Sp := fun vs H Q _ => ∃ (a : Addr) (ns : List Int), vs = [.ref a] ∧ SqL K H a (ns.map V.int) ∧ ns.length ≤ 63 ∧ ∀ H', Q (.bl true) H'
section
variable {P : Program} {w : World} {K : PySem.W.Frag} {mg : Str → Option Value} {base : Heap} {cl : String → Addr}
def CalS (P : Program) (w : World) (K : PySem.W.Frag) (mg : Str → Option Value) (base : Heap) (x : Str) (k : Nat) (ps : List Str) (sp : Sp) : Prop :=
  ∃ (f : Addr) (fd : FuncData), FnG P w K mg base (L2.CX P w) k f fd ps sp ∧ mg x = some (.ref f) ∧ PySem.W.keepIn K (.ref f) = true ∧ Binds K fd ps []
end
end DL

/-! DL15: reckoning on data: what each piece does, as rows for simp -/
noncomputable section
namespace DL
open PySem L2
def andThen (x : Flow) (q : DSt → Flow) : Flow := match x with
  | .next s => q s
  | x => x
theorem inB_of {j : Int} (h1 : -1000000000 ≤ j) (h2 : j ≤ 1000000000) : inB j := ⟨by omega, by omega⟩
theorem inW_of {j : Int} (h1 : -1000000000 ≤ j) (h2 : j ≤ 1000000000) : inW j := ⟨by omega, by omega⟩
@[simp] theorem inB_lit {k : Nat} (h : k ≤ 1000000000) : inB (no_index (OfNat.ofNat k)) := ⟨by
  show -(2 ^ 62) ≤ (k : Int)
  omega, by
  show (k : Int) < 2 ^ 62
  omega⟩
@[simp] theorem inW_lit {k : Nat} (h : k ≤ 1000000000) : inW (no_index (OfNat.ofNat k)) := ⟨by
  show -(2 ^ 63) ≤ (k : Int)
  omega, by
  show (k : Int) < 2 ^ 63
  omega⟩
@[simp] theorem size_le {n : Nat} (h : n ≤ 100000) : leS n := Nat.le_trans h (by decide)
@[simp] theorem size_lt {n : Nat} (h : n ≤ 100000) : ltS n := Nat.lt_of_le_of_lt h (by decide)
@[simp] theorem at_next {s : DSt} {q : DSt → Flow} : andThen (.next s) q = q s := Eq.trans rfl rfl
@[simp] theorem at_ret {r : R} {s : DSt} {q : DSt → Flow} : andThen (.ret r s) q = .ret r s := Eq.trans rfl rfl
@[simp] theorem at_brk {s : DSt} {q : DSt → Flow} : andThen (.brk s) q = .brk s := Eq.trans rfl rfl
@[simp] theorem at_cnt {s : DSt} {q : DSt → Flow} : andThen (.cnt s) q = .cnt s := Eq.trans rfl rfl
@[simp] theorem at_err {z : Exn} {s : DSt} {q : DSt → Flow} : andThen (.err z s) q = .err z s := Eq.trans rfl rfl
@[simp] theorem at_stuck {q : DSt → Flow} : andThen .stuck q = .stuck := Eq.trans rfl rfl
def onF (x : FRes) (s : DSt) : Res R := match x with
  | .ok r w => .ok r ⟨s.d, w⟩
  | .err z w => .err z ⟨s.d, w⟩
  | .stuck => .stuck
@[simp] theorem onF_ok {r : R} {w : Pw} {s : DSt} : onF (.ok r w) s = .ok r ⟨s.d, w⟩ := Eq.trans rfl rfl
@[simp] theorem onF_err {r : Exn} {w : Pw} {s : DSt} : onF (.err r w) s = .err r ⟨s.d, w⟩ := Eq.trans rfl rfl
def finF (x : Flow) : FRes := match x with
  | .next s => .ok (.val .none) s.w
  | .ret r s => (match finR r s with | some r' => .ok r' s.w | none => .stuck)
  | .err z s => .err z s.w
  | _ => .stuck
@[simp] theorem finF_next {s : DSt} : finF (.next s) = .ok (.val .none) s.w := Eq.trans rfl rfl
@[simp] theorem finF_ret {r : R} {s : DSt} : finF (.ret r s) = (match finR r s with | some r' => .ok r' s.w | none => .stuck) := Eq.trans rfl rfl
@[simp] theorem finF_err {r : Exn} {s : DSt} : finF (.err r s) = .err r s.w := Eq.trans rfl rfl
/-! continuations by name: simp does not run ahead into them -/
def kOp (o : R → R → M R) (g : M R) (x : R) (s : DSt) : Res R := (g s).bind (o x)
@[simp] theorem y_kOp (o : R → R → M R) (g : M R) (x : R) (s : DSt) : kOp o g x s = ((g s).bind (o x)) := Eq.trans rfl rfl
def kB  (r : R) (s : DSt) : Res Bool := match look r s with | some (.bool b) => .ok b s | _ => .stuck
@[simp] theorem y_kB  (r : R) (s : DSt) : kB  r s = (match look r s with | some (.bool b) => .ok b s | _ => .stuck) := Eq.trans rfl rfl
def kAnd (u : M Bool) (b : Bool) (s : DSt) : Res Bool := if b = true then u s else .ok false s
@[simp] theorem y_kAnd (u : M Bool) (b : Bool) (s : DSt) : kAnd u b s = (if b = true then u s else .ok false s) := Eq.trans rfl rfl
def kOr (u : M Bool) (b : Bool) (s : DSt) : Res Bool := if b = true then .ok true s else u s
@[simp] theorem y_kOr (u : M Bool) (b : Bool) (s : DSt) : kOr u b s = (if b = true then .ok true s else u s) := Eq.trans rfl rfl
def kNot  (b : Bool) (s : DSt) : Res Bool := .ok (!b) s
@[simp] theorem y_kNot  (b : Bool) (s : DSt) : kNot  b s = (.ok (!b) s) := Eq.trans rfl rfl
def kV  (b : Bool) (s : DSt) : Res R := .ok (.val (.bool b)) s
@[simp] theorem y_kV  (b : Bool) (s : DSt) : kV  b s = (.ok (.val (.bool b)) s) := Eq.trans rfl rfl
def kAndV (g : M R) (b : Bool) (s : DSt) : Res R := if b = true then g s else .ok (.val (.bool false)) s
@[simp] theorem y_kAndV (g : M R) (b : Bool) (s : DSt) : kAndV g b s = (if b = true then g s else .ok (.val (.bool false)) s) := Eq.trans rfl rfl
def kOrV (g : M R) (b : Bool) (s : DSt) : Res R := if b = true then .ok (.val (.bool true)) s else g s
@[simp] theorem y_kOrV (g : M R) (b : Bool) (s : DSt) : kOrV g b s = (if b = true then .ok (.val (.bool true)) s else g s) := Eq.trans rfl rfl
def kIf (f g : M R) (b : Bool) (s : DSt) : Res R := if b = true then f s else g s
@[simp] theorem y_kIf (f g : M R) (b : Bool) (s : DSt) : kIf f g b s = (if b = true then f s else g s) := Eq.trans rfl rfl
def kCons3 (r : R) (rs : List R) (s : DSt) : Res (List R) := .ok (r :: rs) s
@[simp] theorem y_kCons3 (r : R) (rs : List R) (s : DSt) : kCons3 r rs s = (.ok (r :: rs) s) := Eq.trans rfl rfl
def kCons2 (fs : M (List R)) (r : R) (s : DSt) : Res (List R) := (fs s).bind (kCons3 r)
@[simp] theorem y_kCons2 (fs : M (List R)) (r : R) (s : DSt) : kCons2 fs r s = ((fs s).bind (kCons3 r)) := Eq.trans rfl rfl
def kCons (fs : M (List R)) (r : R) (s : DSt) : Res (List R) := (fEsc r s).bind (kCons2 fs)
@[simp] theorem y_kCons (fs : M (List R)) (r : R) (s : DSt) : kCons fs r s = ((fEsc r s).bind (kCons2 fs)) := Eq.trans rfl rfl
def kLst  (rs : List R) (s : DSt) : Res R := match datas rs with | some ds => if leS ds.length then .ok (.new ds) s else .stuck | none => .stuck
@[simp] theorem y_kLst  (rs : List R) (s : DSt) : kLst  rs s = (match datas rs with | some ds => if leS ds.length then .ok (.new ds) s else .stuck | none => .stuck) := Eq.trans rfl rfl
def kTup  (rs : List R) (s : DSt) : Res R := match datas rs with | some ds => if leS ds.length then .ok (.val (.tuple ds)) s else .stuck | none => .stuck
@[simp] theorem y_kTup  (rs : List R) (s : DSt) : kTup  rs s = (match datas rs with | some ds => if leS ds.length then .ok (.val (.tuple ds)) s else .stuck | none => .stuck) := Eq.trans rfl rfl
def kPart  (r : R) (s : DSt) : Res (Option Int) := match look r s with | some (.int i) => .ok (some i) s | _ => .stuck
@[simp] theorem y_kPart  (r : R) (s : DSt) : kPart  r s = (match look r s with | some (.int i) => .ok (some i) s | _ => .stuck) := Eq.trans rfl rfl
def kSl3 (x : R) (lo : Option Int) (hi : Option Int) (s : DSt) : Res R := match look x s with | some d => (match sliceO d lo hi with | some (.slot _) => .stuck | some r => .ok r s | none => .stuck) | none => .stuck
@[simp] theorem y_kSl3 (x : R) (lo : Option Int) (hi : Option Int) (s : DSt) : kSl3 x lo hi s = (match look x s with | some d => (match sliceO d lo hi with | some (.slot _) => .stuck | some r => .ok r s | none => .stuck) | none => .stuck) := Eq.trans rfl rfl
def kSl2 (b : M (Option Int)) (x : R) (lo : Option Int) (s : DSt) : Res R := (b s).bind (kSl3 x lo)
@[simp] theorem y_kSl2 (b : M (Option Int)) (x : R) (lo : Option Int) (s : DSt) : kSl2 b x lo s = ((b s).bind (kSl3 x lo)) := Eq.trans rfl rfl
def kSl1 (a b : M (Option Int)) (x : R) (s : DSt) : Res R := (a s).bind (kSl2 b x)
@[simp] theorem y_kSl1 (a b : M (Option Int)) (x : R) (s : DSt) : kSl1 a b x s = ((a s).bind (kSl2 b x)) := Eq.trans rfl rfl
def kIsN (b : Bool) (r : R) (s : DSt) : Res R := match isNR r s with | some c => .ok (.val (.bool (if b then !c else c))) s | none => .stuck
@[simp] theorem y_kIsN (b : Bool) (r : R) (s : DSt) : kIsN b r s = (match isNR r s with | some c => .ok (.val (.bool (if b then !c else c))) s | none => .stuck) := Eq.trans rfl rfl
def kDrop  (r : R) (s : DSt) : Flow := .next s
@[simp] theorem y_kDrop  (r : R) (s : DSt) : kDrop  r s = (.next s) := Eq.trans rfl rfl
def kIfS (p q : DSt → Flow) (b : Bool) (s : DSt) : Flow := if b = true then p s else q s
@[simp] theorem y_kIfS (p q : DSt → Flow) (b : Bool) (s : DSt) : kIfS p q b s = (if b = true then p s else q s) := Eq.trans rfl rfl
def kSet (i : Nat) (r : R) (s : DSt) : Flow := if i < s.d.length then (match store i r s with | some s2 => .next s2 | none => .stuck) else .stuck
@[simp] theorem y_kSet (i : Nat) (r : R) (s : DSt) : kSet i r s = (if i < s.d.length then (match store i r s with | some s2 => .next s2 | none => .stuck) else .stuck) := Eq.trans rfl rfl
def kUser (F : List R → Pw → FRes) (rs : List R) (s : DSt) : Res R := onF (F rs s.w) s
@[simp] theorem y_kUser (F : List R → Pw → FRes) (rs : List R) (s : DSt) : kUser F rs s = (onF (F rs s.w) s) := Eq.trans rfl rfl
def kCall (o : List PyData → Option R) (rs : List R) (s : DSt) : Res R := match looks rs s with | some ds => (match o ds with | some (.slot _) => .stuck | some r => .ok r s | none => .stuck) | none => .stuck
@[simp] theorem y_kCall (o : List PyData → Option R) (rs : List R) (s : DSt) : kCall o rs s = (match looks rs s with | some ds => (match o ds with | some (.slot _) => .stuck | some r => .ok r s | none => .stuck) | none => .stuck) := Eq.trans rfl rfl
def kIsi (m : String) (r : R) (s : DSt) : Res R := match look r s with | some d => .ok (.val (.bool (isT m d))) s | none => .stuck
@[simp] theorem y_kIsi (m : String) (r : R) (s : DSt) : kIsi m r s = (match look r s with | some d => .ok (.val (.bool (isT m d))) s | none => .stuck) := Eq.trans rfl rfl
def kLenSet  (r : R) (s : DSt) : Res R := match look r s with | some (.list ds) => (match intsD ds with | some ns => if ns.length ≤ 4000 then .ok (.val (.int (nubI ns).length)) s else .stuck | none => .stuck) | _ => .stuck
@[simp] theorem y_kLenSet  (r : R) (s : DSt) : kLenSet  r s = (match look r s with | some (.list ds) => (match intsD ds with | some ns => if ns.length ≤ 4000 then .ok (.val (.int (nubI ns).length)) s else .stuck | none => .stuck) | _ => .stuck) := Eq.trans rfl rfl
def kIdx2 (x : R) (r : R) (s : DSt) : Res R := match look x s, look r s with | some (.list ds), some d => (match idxO ds d with | some j => .ok (.val (.int (j : Nat))) s | none => .stuck) | _, _ => .stuck
@[simp] theorem y_kIdx2 (x : R) (r : R) (s : DSt) : kIdx2 x r s = (match look x s, look r s with | some (.list ds), some d => (match idxO ds d with | some j => .ok (.val (.int (j : Nat))) s | none => .stuck) | _, _ => .stuck) := Eq.trans rfl rfl
def kIdx (f : M R) (x : R) (s : DSt) : Res R := if isLst x s = true then (f s).bind (kIdx2 x) else .stuck
@[simp] theorem y_kIdx (f : M R) (x : R) (s : DSt) : kIdx f x s = (if isLst x s = true then (f s).bind (kIdx2 x) else .stuck) := Eq.trans rfl rfl
def kApp2 (i : Nat) (r : R) (s : DSt) : Res R := match r, s.d[i]? with | .val d, some (.own ds) => if ltS ds.length then .ok (.val .none) (putS i (.own (ds ++ [d])) s) else .stuck | _, _ => .stuck
@[simp] theorem y_kApp2 (i : Nat) (r : R) (s : DSt) : kApp2 i r s = (match r, s.d[i]? with | .val d, some (.own ds) => if ltS ds.length then .ok (.val .none) (putS i (.own (ds ++ [d])) s) else .stuck | _, _ => .stuck) := Eq.trans rfl rfl
def kApp1 (i : Nat) (r : R) (s : DSt) : Res R := (fEsc r s).bind (kApp2 i)
@[simp] theorem y_kApp1 (i : Nat) (r : R) (s : DSt) : kApp1 i r s = ((fEsc r s).bind (kApp2 i)) := Eq.trans rfl rfl
def kPopAt (i : Nat) (r : R) (s : DSt) : Res R := match look r s, s.d[i]? with | some (.int k), some (.own ds) => (match ixN ds.length k with | some j => (match ds[j]? with | some d => if inW k then .ok (.val d) (putS i (.own (ds.eraseIdx j)) s) else .stuck | none => .stuck) | none => .stuck) | _, _ => .stuck
@[simp] theorem y_kPopAt (i : Nat) (r : R) (s : DSt) : kPopAt i r s = (match look r s, s.d[i]? with | some (.int k), some (.own ds) => (match ixN ds.length k with | some j => (match ds[j]? with | some d => if inW k then .ok (.val d) (putS i (.own (ds.eraseIdx j)) s) else .stuck | none => .stuck) | none => .stuck) | _, _ => .stuck) := Eq.trans rfl rfl
def kIns (i : Nat) (rs : List R) (s : DSt) : Res R := match rs, s.d[i]? with | [.val (.int k), .val d], some (.own ds) => if 0 ≤ k ∧ inW k ∧ ltS ds.length then .ok (.val .none) (putS i (.own (ds.take k.toNat ++ [d] ++ ds.drop k.toNat)) s) else .stuck | _, _ => .stuck
@[simp] theorem y_kIns (i : Nat) (rs : List R) (s : DSt) : kIns i rs s = (match rs, s.d[i]? with | [.val (.int k), .val d], some (.own ds) => if 0 ≤ k ∧ inW k ∧ ltS ds.length then .ok (.val .none) (putS i (.own (ds.take k.toNat ++ [d] ++ ds.drop k.toNat)) s) else .stuck | _, _ => .stuck) := Eq.trans rfl rfl
def kRem (i : Nat) (r : R) (s : DSt) : Res R := match look r s, s.d[i]? with | some (.int k), some (.own ds) => (match intsD ds with | some ns => (match ns.findIdx? (· == k) with | some j => .ok (.val .none) (putS i (.own ((ns.eraseIdx j).map .int)) s) | none => .stuck) | none => .stuck) | _, _ => .stuck
@[simp] theorem y_kRem (i : Nat) (r : R) (s : DSt) : kRem i r s = (match look r s, s.d[i]? with | some (.int k), some (.own ds) => (match intsD ds with | some ns => (match ns.findIdx? (· == k) with | some j => .ok (.val .none) (putS i (.own ((ns.eraseIdx j).map .int)) s) | none => .stuck) | none => .stuck) | _, _ => .stuck) := Eq.trans rfl rfl
def kAug (i : Nat) (o : Int → Int → Int) (a : Int) (r : R) (s : DSt) : Flow := match look r s with | some (.int b) => if i < s.d.length then .next (putS i (.val (.int (o a b))) s) else .stuck | _ => .stuck
@[simp] theorem y_kAug (i : Nat) (o : Int → Int → Int) (a : Int) (r : R) (s : DSt) : kAug i o a r s = (match look r s with | some (.int b) => if i < s.d.length then .next (putS i (.val (.int (o a b))) s) else .stuck | _ => .stuck) := Eq.trans rfl rfl
def kSetIx2 (i : Nat) (r : R) (k : R) (s : DSt) : Flow := match r, look k s, s.d[i]? with | .val d, some (.int n), some (.own ds) => (match ixN ds.length n with | some j => .next (putS i (.own (ds.set j d)) s) | none => .stuck) | _, _, _ => .stuck
@[simp] theorem y_kSetIx2 (i : Nat) (r : R) (k : R) (s : DSt) : kSetIx2 i r k s = (match r, look k s, s.d[i]? with | .val d, some (.int n), some (.own ds) => (match ixN ds.length n with | some j => .next (putS i (.own (ds.set j d)) s) | none => .stuck) | _, _, _ => .stuck) := Eq.trans rfl rfl
def kSetIx (i : Nat) (g : M R) (r : R) (s : DSt) : Flow := if isOwn i s = true then onRes (g s) (kSetIx2 i r) else .stuck
@[simp] theorem y_kSetIx (i : Nat) (g : M R) (r : R) (s : DSt) : kSetIx i g r s = (if isOwn i s = true then onRes (g s) (kSetIx2 i r) else .stuck) := Eq.trans rfl rfl
def kPar (i j : Nat) (rs : List R) (s : DSt) : Flow := match rs with | [r1, r2] => if i < s.d.length ∧ j < s.d.length then .next (putS j (toSl r2) (putS i (toSl r1) s)) else .stuck | _ => .stuck
@[simp] theorem y_kPar (i j : Nat) (rs : List R) (s : DSt) : kPar i j rs s = (match rs with | [r1, r2] => if i < s.d.length ∧ j < s.d.length then .next (putS j (toSl r2) (putS i (toSl r1) s)) else .stuck | _ => .stuck) := Eq.trans rfl rfl
def kAsgB (b : Bd) (r : R) (s : DSt) : Flow := match r with | .val d => (match b d s with | some s2 => .next s2 | none => .stuck) | _ => .stuck
@[simp] theorem y_kAsgB (b : Bd) (r : R) (s : DSt) : kAsgB b r s = (match r with | .val d => (match b d s with | some s2 => .next s2 | none => .stuck) | _ => .stuck) := Eq.trans rfl rfl
def kLstI2  (r : R) (s : DSt) : Res (List PyData) := match r with | .val (.list ds) => .ok ds s | .val (.tuple ds) => .ok ds s | _ => .stuck
@[simp] theorem y_kLstI2  (r : R) (s : DSt) : kLstI2  r s = (match r with | .val (.list ds) => .ok ds s | .val (.tuple ds) => .ok ds s | _ => .stuck) := Eq.trans rfl rfl
def kLstI  (r : R) (s : DSt) : Res (List PyData) := (fEsc r s).bind kLstI2
@[simp] theorem y_kLstI  (r : R) (s : DSt) : kLstI  r s = ((fEsc r s).bind kLstI2) := Eq.trans rfl rfl
def kTupI  (r : R) (s : DSt) : Res (List PyData) := match look r s with | some (.tuple ds) => .ok ds s | _ => .stuck
@[simp] theorem y_kTupI  (r : R) (s : DSt) : kTupI  r s = (match look r s with | some (.tuple ds) => .ok ds s | _ => .stuck) := Eq.trans rfl rfl
def kRng1  (rs : List R) (s : DSt) : Res (List PyData) := match rs with | [r] => (match look r s with | some (.int j) => if inB j then .ok (rangeD 0 j.toNat) s else .stuck | _ => .stuck) | _ => .stuck
@[simp] theorem y_kRng1  (rs : List R) (s : DSt) : kRng1  rs s = (match rs with | [r] => (match look r s with | some (.int j) => if inB j then .ok (rangeD 0 j.toNat) s else .stuck | _ => .stuck) | _ => .stuck) := Eq.trans rfl rfl
def kRng2  (rs : List R) (s : DSt) : Res (List PyData) := match rs with | [r, r2] => (match look r s, look r2 s with | some (.int i), some (.int j) => if inB i ∧ inB j then .ok (rangeD i (j - i).toNat) s else .stuck | _, _ => .stuck) | _ => .stuck
@[simp] theorem y_kRng2  (rs : List R) (s : DSt) : kRng2  rs s = (match rs with | [r, r2] => (match look r s, look r2 s with | some (.int i), some (.int j) => if inB i ∧ inB j then .ok (rangeD i (j - i).toNat) s else .stuck | _, _ => .stuck) | _ => .stuck) := Eq.trans rfl rfl
def kEnum  (rs : List R) (s : DSt) : Res (List PyData) := match rs with | [.val (.list ds)] => .ok (enumD ds) s | _ => .stuck
@[simp] theorem y_kEnum  (rs : List R) (s : DSt) : kEnum  rs s = (match rs with | [.val (.list ds)] => .ok (enumD ds) s | _ => .stuck) := Eq.trans rfl rfl
def kZip  (rs : List R) (s : DSt) : Res (List PyData) := match rs with | [.val (.list ds), .val (.list es)] => .ok (zipD ds es) s | _ => .stuck
@[simp] theorem y_kZip  (rs : List R) (s : DSt) : kZip  rs s = (match rs with | [.val (.list ds), .val (.list es)] => .ok (zipD ds es) s | _ => .stuck) := Eq.trans rfl rfl
def kUn (o : R → M R) (x : R) (s : DSt) : Res R := o x s
@[simp] theorem y_kUn (o : R → M R) (x : R) (s : DSt) : kUn o x s = (o x s) := Eq.trans rfl rfl
def kIxC (c : Addr) (r : R) (s : DSt) : Res R := match s.w, look r s with | some (pa, ca, cells, t), some (.int n) => if c = ca then match atI cells n with | some z => .ok (.val (.int z)) s | none => .stuck else .stuck | _, _ => .stuck
@[simp] theorem y_kIxC (c : Addr) (r : R) (s : DSt) : kIxC c r s = (match s.w, look r s with | some (pa, ca, cells, t), some (.int n) => if c = ca then match atI cells n with | some z => .ok (.val (.int z)) s | none => .stuck else .stuck | _, _ => .stuck) := Eq.trans rfl rfl
@[simp] theorem x_ixC {i : Nat} {f : M R} {s : DSt} : fIxC i f s = (match s.d[i]? with | some (.raw (.ref c)) => (f s).bind (kIxC c) | _ => .stuck) := Eq.trans rfl rfl
@[simp] theorem x_unP {i j k : Nat} {s : DSt} : fUnP i j k s = (match s.d[i]?, s.w with | some (.raw (.ref p)), some (pa, ca, cells, t) => if p = pa ∧ pa ≠ ca ∧ j < s.d.length ∧ k < s.d.length then .next (putS k (.val (.int t)) (putS j (.raw (.ref ca)) s)) else .stuck | _, _ => .stuck) := Eq.trans rfl rfl
@[simp] theorem x_lenC {i : Nat} {s : DSt} : fLenC i s = (match s.d[i]?, s.w with | some (.raw (.ref c)), some (pa, ca, cells, t) => if c = ca then .ok (.val (.int cells.length)) s else .stuck | _, _ => .stuck) := Eq.trans rfl rfl
def kSetT (i : Nat) (r : R) (s : DSt) : Flow := match s.d[i]?, s.w, look r s with | some (.raw (.ref p)), some (pa, ca, cells, t), some (.int n) => if p = pa ∧ pa ≠ ca then .next ⟨s.d, some (pa, ca, cells, n)⟩ else .stuck | _, _, _ => .stuck
@[simp] theorem y_kSetT (i : Nat) (r : R) (s : DSt) : kSetT i r s = (match s.d[i]?, s.w, look r s with | some (.raw (.ref p)), some (pa, ca, cells, t), some (.int n) => if p = pa ∧ pa ≠ ca then .next ⟨s.d, some (pa, ca, cells, n)⟩ else .stuck | _, _, _ => .stuck) := Eq.trans rfl rfl
@[simp] theorem x_setT {i : Nat} {f : M R} {s : DSt} : fSetT i f s = onRes (f s) (kSetT i) := Eq.trans rfl rfl
def kSetC2 (c : Addr) (z : Option PyData) (k : R) (s : DSt) : Flow := match s.w, z, look k s with | some (pa, ca, cells, t), some (.int z), some (.int n) => if c = ca then match ixN cells.length n with | some j => .next ⟨s.d, some (pa, ca, cells.set j z, t)⟩ | none => .stuck else .stuck | _, _, _ => .stuck
@[simp] theorem y_kSetC2 (c : Addr) (z : Option PyData) (k : R) (s : DSt) : kSetC2 c z k s = (match s.w, z, look k s with | some (pa, ca, cells, t), some (.int z), some (.int n) => if c = ca then match ixN cells.length n with | some j => .next ⟨s.d, some (pa, ca, cells.set j z, t)⟩ | none => .stuck else .stuck | _, _, _ => .stuck) := Eq.trans rfl rfl
def kSetC (i : Nat) (g : M R) (r : R) (s : DSt) : Flow := match s.d[i]? with | some (.raw (.ref c)) => onRes (g s) (kSetC2 c (look r s)) | _ => .stuck
@[simp] theorem y_kSetC (i : Nat) (g : M R) (r : R) (s : DSt) : kSetC i g r s = (match s.d[i]? with | some (.raw (.ref c)) => onRes (g s) (kSetC2 c (look r s)) | _ => .stuck) := Eq.trans rfl rfl
@[simp] theorem x_setC {i : Nat} {f g : M R} {s : DSt} : fSetC i f g s = onRes (f s) (kSetC i g) := Eq.trans rfl rfl
section
variable {α β : Type} {i j k n : Nat} {s s1 s2 : DSt} {f g : M R} {fs : M (List R)} {t u : M Bool} {p q : DSt → Flow} {r x y : R} {d e : PyData} {ds es : List PyData} {v : V} {l : List Sl} {w : Pw} {c : Sl}
@[simp] theorem x_var : fVar i s = (match s.d[i]? with | some (.val d) => .ok (.val d) s | some (.raw v) => .ok (.raw v) s | some (.ob o) => .ok (.ob o) s | some (.own _) => .ok (.slot i) s | _ => .stuck) := Eq.trans rfl rfl
@[simp] theorem x_c : fC d s = .ok (.val d) s := Eq.trans rfl rfl
@[simp] theorem x_raw : fRaw v s = .ok (.raw v) s := Eq.trans rfl rfl
@[simp] theorem x_op {o : R → R → M R} : fOp o f g s = (f s).bind (kOp o g) := Eq.trans rfl rfl
@[simp] theorem x_look_val : look (.val d) s = some d := Eq.trans rfl rfl
@[simp] theorem x_look_new : look (.new ds) s = some (.list ds) := Eq.trans rfl rfl
@[simp] theorem x_look_raw : look (.raw v) s = none := Eq.trans rfl rfl
@[simp] theorem x_look_ob {o : OD} : look (.ob o) s = none := Eq.trans rfl rfl
@[simp] theorem x_look_slot : look (.slot i) s = (match s.d[i]? with | some (.own ds) => some (.list ds) | some (.val d) => some d | _ => none) := Eq.trans rfl rfl
@[simp] theorem x_lift1 {o : PyData → Option R} : lift1 o x s = (match look x s with | some d => (match o d with | some (.slot _) => .stuck | some r => .ok r s | none => .stuck) | none => .stuck) := Eq.trans rfl rfl
@[simp] theorem x_lift2 {o : PyData → PyData → Option R} : lift2 o x y s = (match look x s, look y s with | some d, some e => (match o d e with | some (.slot _) => .stuck | some r => .ok r s | none => .stuck) | _, _ => .stuck) := Eq.trans rfl rfl
@[simp] theorem x_B : fB f s = (f s).bind kB := Eq.trans rfl rfl
@[simp] theorem x_and : fAnd t u s = (t s).bind (kAnd u) := by
  show Res.bind _ _ = _
  congr 1
  funext b s
  cases b <;> rfl
@[simp] theorem x_or : fOr t u s = (t s).bind (kOr u) := by
  show Res.bind _ _ = _
  congr 1
  funext b s
  cases b <;> rfl
@[simp] theorem x_not : fNot t s = (t s).bind kNot := Eq.trans rfl rfl
@[simp] theorem x_V : fV t s = (t s).bind kV := Eq.trans rfl rfl
@[simp] theorem x_andV : fAndV f g s = (fB f s).bind (kAndV g) := by
  show Res.bind _ _ = _
  congr 1
  funext b s
  cases b <;> rfl
@[simp] theorem x_orV : fOrV f g s = (fB f s).bind (kOrV g) := by
  show Res.bind _ _ = _
  congr 1
  funext b s
  cases b <;> rfl
@[simp] theorem x_if : fIf t f g s = (t s).bind (kIf f g) := by
  show Res.bind _ _ = _
  congr 1
  funext b s
  cases b <;> rfl
@[simp] theorem x_esc_val : esc (.val d) s = some (.val d, s) := Eq.trans rfl rfl
@[simp] theorem x_esc_raw : esc (.raw v) s = some (.raw v, s) := Eq.trans rfl rfl
@[simp] theorem x_esc_ob {o : OD} : esc (.ob o) s = some (.ob o, s) := Eq.trans rfl rfl
@[simp] theorem x_esc_new : esc (.new ds) s = some (.val (.list ds), s) := Eq.trans rfl rfl
@[simp] theorem x_esc_slot : esc (.slot i) s = (match s.d[i]? with | some (.own ds) => some (.val (.list ds), ⟨s.d.set i (.val (.list ds)), s.w⟩) | some (.val d) => some (.val d, s) | _ => none) := Eq.trans rfl rfl
@[simp] theorem x_Esc : fEsc r s = (match esc r s with | some (r', s') => .ok r' s' | none => .stuck) := Eq.trans rfl rfl
@[simp] theorem x_nil : fNil s = .ok [] s := Eq.trans rfl rfl
@[simp] theorem x_cons : fCons f fs s = (f s).bind (kCons fs) := Eq.trans rfl rfl
@[simp] theorem x_pcons : pCons f fs s = (f s).bind (kCons2 fs) := Eq.trans rfl rfl
@[simp] theorem x_datas_nil : datas [] = some [] := Eq.trans rfl rfl
@[simp] theorem x_datas_cons {rs : List R} : datas (.val d :: rs) = (datas rs).map (d :: ·) := Eq.trans rfl rfl
@[simp] theorem x_lst : fLst fs s = (fs s).bind kLst := Eq.trans rfl rfl
@[simp] theorem x_tup : fTup fs s = (fs s).bind kTup := Eq.trans rfl rfl
@[simp] theorem x_part : fPart f s = (f s).bind kPart := Eq.trans rfl rfl
@[simp] theorem x_nopart : fNoPart s = .ok none s := Eq.trans rfl rfl
@[simp] theorem x_slice {a b : M (Option Int)} : fSlice f a b s = (f s).bind (kSl1 a b) := Eq.trans rfl rfl
@[simp] theorem x_un {o : R → M R} : fUn o f s = (f s).bind (kUn o) := Eq.trans rfl rfl
@[simp] theorem x_isN {b : Bool} : fIsN b f s = (f s).bind (kIsN b) := Eq.trans rfl rfl
@[simp] theorem x_isN_val : isNR (.val d) s = some (match d with | .none => true | _ => false) := by cases d <;> rfl
@[simp] theorem x_isN_ob {o : OD} : isNR (.ob o) s = some false := Eq.trans rfl rfl
@[simp] theorem x_isN_new : isNR (.new ds) s = some false := Eq.trans rfl rfl
@[simp] theorem x_isN_slot : isNR (.slot i) s = (match s.d[i]? with | some (.own _) => some false | some (.val d) => some (match d with | .none => true | _ => false) | _ => none) := by
  show (match look (.slot i) s with | some .none => some true | some _ => some false | none => none) = _
  rw [x_look_slot]
  cases s.d[i]? with
  | none => rfl
  | some c =>
    cases c with
    | val d => cases d <;> rfl
    | _ => rfl
@[simp] theorem x_onRes_ok {a : α} {h : α → DSt → Flow} : onRes (.ok a s) h = h a s := Eq.trans rfl rfl
@[simp] theorem x_onRes_err {z : Exn} {h : α → DSt → Flow} : onRes (.err z s) h = .err z s := Eq.trans rfl rfl
@[simp] theorem x_onRes_stuck {h : α → DSt → Flow} : onRes .stuck h = .stuck := Eq.trans rfl rfl
@[simp] theorem x_seq : fseq p q s = andThen (p s) q := Eq.trans rfl rfl
@[simp] theorem x_next : fnext s = .next s := Eq.trans rfl rfl
@[simp] theorem x_brk : fbrk s = .brk s := Eq.trans rfl rfl
@[simp] theorem x_cnt : fcnt s = .cnt s := Eq.trans rfl rfl
@[simp] theorem x_never : fnever s = .stuck := Eq.trans rfl rfl
@[simp] theorem x_drop : fDrop f s = onRes (f s) kDrop := Eq.trans rfl rfl
@[simp] theorem x_ret : fRet f s = onRes (f s) Flow.ret := Eq.trans rfl rfl
@[simp] theorem x_retN : fRetN s = .ret (.val .none) s := Eq.trans rfl rfl
@[simp] theorem x_ifS : fIfS t p q s = onRes (t s) (kIfS p q) := by
  show onRes _ _ = _
  congr 1
@[simp] theorem x_store_val : store i (.val d) s = some (putS i (.val d) s) := Eq.trans rfl rfl
@[simp] theorem x_store_raw : store i (.raw v) s = some (putS i (.raw v) s) := Eq.trans rfl rfl
@[simp] theorem x_store_ob {o : OD} : store i (.ob o) s = some (putS i (.ob o) s) := Eq.trans rfl rfl
@[simp] theorem x_store_new : store i (.new ds) s = some (putS i (.own ds) s) := Eq.trans rfl rfl
@[simp] theorem x_store_slot : store i (.slot j) s = (match s.d[j]? with | some (.own ds) => some (putS i (.val (.list ds)) (putS j (.val (.list ds)) s)) | some (.val d) => some (putS i (.val d) s) | _ => none) := Eq.trans rfl rfl
@[simp] theorem x_putS : putS i c ⟨l, w⟩ = ⟨l.set i c, w⟩ := Eq.trans rfl rfl
@[simp] theorem x_set : fSet i f s = onRes (f s) (kSet i) := Eq.trans rfl rfl
@[simp] theorem x_user {F : List R → Pw → FRes} : fUser F fs s = (fs s).bind (kUser F) := Eq.trans rfl rfl
@[simp] theorem x_call {o : List PyData → Option R} : fCall o fs s = (fs s).bind (kCall o) := Eq.trans rfl rfl
@[simp] theorem x_looks_nil : looks [] s = some [] := Eq.trans rfl rfl
@[simp] theorem x_looks_cons {rs : List R} : looks (r :: rs) s = (match look r s, looks rs s with | some d, some ds => some (d :: ds) | _, _ => none) := Eq.trans rfl rfl
@[simp] theorem x_isi {m : String} : fIsi m f s = (f s).bind (kIsi m) := Eq.trans rfl rfl
@[simp] theorem x_lenSet : fLenSet f s = (f s).bind kLenSet := Eq.trans rfl rfl
@[simp] theorem x_isLst_val : isLst (.val (.list ds)) s = true := Eq.trans rfl rfl
@[simp] theorem x_isLst_new : isLst (.new ds) s = true := Eq.trans rfl rfl
@[simp] theorem x_isLst_slot : isLst (.slot i) s = (match s.d[i]? with | some (.own _) => true | some (.val (.list _)) => true | _ => false) := by
  show (match look (.slot i) s with | some (.list _) => true | _ => false) = _
  rw [x_look_slot]
  cases s.d[i]? with
  | none => rfl
  | some c =>
    cases c with
    | val d => cases d <;> rfl
    | _ => rfl
@[simp] theorem x_index : fIndex g f s = (g s).bind (kIdx f) := by
  show Res.bind _ _ = _
  congr 1
@[simp] theorem x_isOwn : isOwn i s = (match s.d[i]? with | some (.own _) => true | _ => false) := Eq.trans rfl rfl
@[simp] theorem x_app : fApp i f s = if isOwn i s = true then (f s).bind (kApp1 i) else .stuck := Eq.trans rfl rfl
@[simp] theorem x_pop : fPop i s = (match s.d[i]? with | some (.own ds) => (match ds[ds.length - 1]? with | some d => .ok (.val d) (putS i (.own ds.dropLast) s) | none => .stuck) | _ => .stuck) := Eq.trans rfl rfl
@[simp] theorem x_popAt : fPopAt i f s = if isOwn i s = true then (f s).bind (kPopAt i) else .stuck := Eq.trans rfl rfl
@[simp] theorem x_ins : fIns i fs s = if isOwn i s = true then (fs s).bind (kIns i) else .stuck := Eq.trans rfl rfl
@[simp] theorem x_rem : fRem i f s = if isOwn i s = true then (f s).bind (kRem i) else .stuck := Eq.trans rfl rfl
@[simp] theorem x_clear : fClear i s = (match s.d[i]? with | some (.own _) => .ok (.val .none) (putS i (.own []) s) | _ => .stuck) := Eq.trans rfl rfl
@[simp] theorem x_aug {o : Int → Int → Int} : fAug i o f s = (match s.d[i]? with | some (.val (.int a)) => onRes (f s) (kAug i o a) | _ => .stuck) := Eq.trans rfl rfl
@[simp] theorem x_setIx : fSetIx i f g s = onRes ((f s).bind fEsc) (kSetIx i g) := Eq.trans rfl rfl
@[simp] theorem x_toSl_val : toSl (.val d) = .val d := Eq.trans rfl rfl
@[simp] theorem x_toSl_ob {o : OD} : toSl (.ob o) = .ob o := Eq.trans rfl rfl
@[simp] theorem x_toSl_raw : toSl (.raw v) = .raw v := Eq.trans rfl rfl
@[simp] theorem x_par : fPar i j fs s = onRes (fs s) (kPar i j) := Eq.trans rfl rfl
@[simp] theorem x_bName : bName i d s = if i < s.d.length then some (putS i (.val d) s) else none := Eq.trans rfl rfl
@[simp] theorem x_bTup {bs : Bds} : bTup n bs (.tuple ds) s = if ds.length = n then bs ds s else none := Eq.trans rfl rfl
@[simp] theorem x_bSeq_t {bs : Bds} : bSeq n bs (.tuple ds) s = if ds.length = n then bs ds s else none := Eq.trans rfl rfl
@[simp] theorem x_bSeq_l {bs : Bds} : bSeq n bs (.list ds) s = if ds.length = n then bs ds s else none := Eq.trans rfl rfl
@[simp] theorem x_bNil : bNil [] s = some s := Eq.trans rfl rfl
@[simp] theorem x_bCons {b : Bd} {bs : Bds} : bCons b bs (d :: ds) s = (match b d s with | some s' => bs ds s' | none => none) := Eq.trans rfl rfl
@[simp] theorem x_asgB {b : Bd} : fAsgB f b s = onRes ((f s).bind fEsc) (kAsgB b) := Eq.trans rfl rfl
@[simp] theorem x_lstI : fLstI f s = (f s).bind kLstI := Eq.trans rfl rfl
@[simp] theorem x_tupI : fTupI f s = (f s).bind kTupI := Eq.trans rfl rfl
@[simp] theorem x_rng1 : fRng1 fs s = (fs s).bind kRng1 := Eq.trans rfl rfl
@[simp] theorem x_rng2 : fRng2 fs s = (fs s).bind kRng2 := Eq.trans rfl rfl
@[simp] theorem x_enum : fEnum fs s = (fs s).bind kEnum := Eq.trans rfl rfl
@[simp] theorem x_zip : fZip fs s = (fs s).bind kZip := Eq.trans rfl rfl
@[simp] theorem x_for {fi : M (List PyData)} {b : Bd} : fFor fi b p s = onRes (fi s) (loopF b p) := Eq.trans rfl rfl
@[simp] theorem x_yes : fYes s = .ok true s := Eq.trans rfl rfl
@[simp] theorem x_addII {a b : Int} : addO (.int a) (.int b) = some (.val (.int (a + b))) := Eq.trans rfl rfl
@[simp] theorem x_addLL : addO (.list ds) (.list es) = if leS (ds.length + es.length) then some (.new (ds ++ es)) else none := Eq.trans rfl rfl
@[simp] theorem x_addTT : addO (.tuple ds) (.tuple es) = if leS (ds.length + es.length) then some (.val (.tuple (ds ++ es))) else none := Eq.trans rfl rfl
@[simp] theorem x_sub {a b : Int} : subO (.int a) (.int b) = some (.val (.int (a - b))) := Eq.trans rfl rfl
theorem x_mul {a b : Int} : mulO (.int a) (.int b) = if lgM a b then some (.val (.int (a * b))) else none := Eq.trans rfl rfl
@[simp] theorem x_mulL {k : Int} : mulO (.list ds) (.int k) = if inW k ∧ leS (ds.length * k.toNat) then some (.new (List.replicate k.toNat ds).flatten) else none := Eq.trans rfl rfl
theorem x_fdiv {a b : Int} : fdivO (.int a) (.int b) = if 0 < b ∧ lgD b then some (.val (.int (a / b))) else none := Eq.trans rfl rfl
theorem x_mod {a b : Int} : modO (.int a) (.int b) = if 0 < b then some (.val (.int (a % b))) else none := Eq.trans rfl rfl
theorem x_pow {a b : Int} : powO (.int a) (.int b) = if 0 ≤ b ∧ leP b ∧ lgP a then some (.val (.int (a ^ b.toNat))) else none := Eq.trans rfl rfl
@[simp] theorem x_lt {a b : Int} : ltO (.int a) (.int b) = some (.val (.bool (decide (a < b)))) := Eq.trans rfl rfl
@[simp] theorem x_le {a b : Int} : leO (.int a) (.int b) = some (.val (.bool (decide (a ≤ b)))) := Eq.trans rfl rfl
@[simp] theorem x_gt {a b : Int} : gtO (.int a) (.int b) = some (.val (.bool (decide (b < a)))) := Eq.trans rfl rfl
@[simp] theorem x_ge {a b : Int} : geO (.int a) (.int b) = some (.val (.bool (decide (b ≤ a)))) := Eq.trans rfl rfl
@[simp] theorem x_neg {a : Int} : negO (.int a) = some (.val (.int (-a))) := Eq.trans rfl rfl
@[simp] theorem x_rev : revO (.list ds) = some (.new ds.reverse) := Eq.trans rfl rfl
@[simp] theorem x_ixL {a : Int} : ixO (.list ds) (.int a) = (atI ds a).map .val := Eq.trans rfl rfl
@[simp] theorem x_ixT {a : Int} : ixO (.tuple ds) (.int a) = (atI ds a).map .val := Eq.trans rfl rfl
@[simp] theorem x_lenL : lenO [.list ds] = some (.val (.int ds.length)) := Eq.trans rfl rfl
@[simp] theorem x_lenT : lenO [.tuple ds] = some (.val (.int ds.length)) := Eq.trans rfl rfl
@[simp] theorem x_listL : listO [.list ds] = some (.new ds) := Eq.trans rfl rfl
@[simp] theorem x_listT : listO [.tuple ds] = some (.new ds) := Eq.trans rfl rfl
@[simp] theorem x_tupL : tupleO [.list ds] = some (.val (.tuple ds)) := Eq.trans rfl rfl
@[simp] theorem x_sliceL {lo hi : Option Int} : sliceO (.list ds) lo hi = some (.new (cutD ds lo hi)) := Eq.trans rfl rfl
@[simp] theorem x_sliceT {lo hi : Option Int} : sliceO (.tuple ds) lo hi = some (.val (.tuple (cutD ds lo hi))) := Eq.trans rfl rfl
@[simp] theorem x_allO : allO [.list ds] = (boolsD ds).map fun bs => .val (.bool (bs.all id)) := Eq.trans rfl rfl
@[simp] theorem x_anyO : anyO [.list ds] = (boolsD ds).map fun bs => .val (.bool (bs.any id)) := Eq.trans rfl rfl
@[simp] theorem x_sumO : sumO [.list ds] = (intsD ds).map fun bs => .val (.int bs.sum) := Eq.trans rfl rfl
@[simp] theorem x_sortedO : sortedO [.list ds] = (match intsD ds with | some ns => some (.new ((sortI ns).map .int)) | none => if canSort ds then some (.new (sortDD ds)) else none) := Eq.trans rfl rfl
@[simp] theorem x_absO {a : Int} : absO [.int a] = some (.val (.int (if a < 0 then -a else a))) := Eq.trans rfl rfl
@[simp] theorem x_intI {a : Int} : intO [.int a] = some (.val (.int a)) := Eq.trans rfl rfl
@[simp] theorem x_intB {b : Bool} : intO [.bool b] = some (.val (.int (if b then 1 else 0))) := Eq.trans rfl rfl
@[simp] theorem x_max2 {a b : Int} : maxO [.int a, .int b] = some (.val (.int (if b > a then b else a))) := Eq.trans rfl rfl
@[simp] theorem x_min2 {a b : Int} : minO [.int a, .int b] = some (.val (.int (if b < a then b else a))) := Eq.trans rfl rfl
@[simp] theorem x_isT_int {a : Int} {m : String} : isT m (.int a) = (m == "int") := by simp [isT, isN, tyN]
@[simp] theorem x_isT_bool {a : Bool} {m : String} : isT m (.bool a) = (m == "bool" || m == "int") := by simp [isT, isN, tyN]
@[simp] theorem x_isT_list {m : String} : isT m (.list ds) = (m == "list") := by simp [isT, isN, tyN]
@[simp] theorem x_isT_tuple {m : String} : isT m (.tuple ds) = (m == "tuple") := by simp [isT, isN, tyN]
@[simp] theorem x_isT_str {a : Str} {m : String} : isT m (.str a) = (m == "str") := by simp [isT, isN, tyN]
@[simp] theorem x_isT_none {m : String} : isT m .none = (m == "NoneType") := by simp [isT, isN, tyN]
@[simp] theorem x_finR_val : finR (.val d) s = some (.val d) := Eq.trans rfl rfl
@[simp] theorem x_finR_new : finR (.new ds) s = some (.new ds) := Eq.trans rfl rfl
@[simp] theorem x_finR_raw : finR (.raw v) s = some (.raw v) := Eq.trans rfl rfl
@[simp] theorem x_finR_ob {o : OD} : finR (.ob o) s = some (.ob o) := Eq.trans rfl rfl
@[simp] theorem x_finR_slot : finR (.slot i) s = (match s.d[i]? with | some (.own ds) => some (.new ds) | some (.val d) => some (.val d) | _ => none) := Eq.trans rfl rfl
theorem x_runF {m : Nat} {rs : List R} : runF n m p rs w = if rs.length = m then finF (p ⟨rs.map toSl ++ List.replicate (n - m) .no, w⟩) else .stuck := Eq.trans rfl rfl
end
/-! ### loops -/
theorem loopF_inv {b : Bd} {p : DSt → Flow} (Inv : Nat → DSt → Prop) {ds : List PyData} {s : DSt} (h0 : Inv 0 s) (step : ∀ (i : Nat) (d : PyData) (s : DSt), ds[i]? = some d → Inv i s → ∃ s1 s2, b d s = some s1 ∧ p s1 = .next s2 ∧ Inv (i + 1) s2) : ∃ s', loopF b p ds s = .next s' ∧ Inv ds.length s' := by
  induction ds generalizing s Inv with
  | nil => exact ⟨s, rfl, h0⟩
  | cons d ds ih =>
    obtain ⟨s1, s2, e1, e2, h2⟩ := step 0 d s rfl h0
    obtain ⟨s', e, h⟩ := ih (fun i => Inv (i + 1)) h2 fun i d s hi h => step (i + 1) d s (by simpa using hi) h
    refine ⟨s', ?_, h⟩
    unfold loopF
    simp only [e1, e2]
    exact e
/-! ### comprehensions -/
end DL

/-! DL16: what is asked of a law's own body, and the end -/
noncomputable section
namespace DL
open PySem L2 PyProof.Rows
def PurseOk (n : Nat) (p : DSt → Flow) : Prop := ∀ (a : Addr) (ns : List Int), ns.length ≤ 63 → ∃ (cells : List Int) (s' : DSt), p ⟨.raw (.ref a) :: .own (ns.map .int) :: List.replicate (n - 2) .no, none⟩ = .ret (.new [.list (cells.map .int), .int 0]) s' ∧ cells ≠ [] ∧ cells.length ≤ 63
def LawOk (n : Nat) (p : DSt → Flow) : Prop := ∀ (a pa ca : Addr) (cells : List Int), pa ≠ ca → cells ≠ [] → cells.length ≤ 63 → ∃ s', p ⟨(Sl.raw (.ref a) :: List.replicate (n - 1) Sl.no).set 1 (.raw (.ref pa)), some (pa, ca, cells, 0)⟩ = .ret (.val (.bool true)) s'
theorem wr_mk {K : PySem.W.Frag} {h : Heap} {mg : Str → Option Value} {x : Str} {st : Stmt} {f : Addr} {oc : Value} {od an : Option Addr} {osl : Array (Option Value)} {kV doc pm cdv ct : Value} {ps : List Str} (X : K.In h) (G : h.Ns mainGlobals mg)
    (a : PySem.W.nsIn K mainGlobals x = some (some (.ref f))) (l : K.lookup f = some ⟨oc, od, .func (PySem.W.fnOf x x (defArgs st) (defBody st) (defScope st) .none kV doc pm an cdv ct), osl⟩)
    (c : PySem.W.codeIn K cdv x = true) (k : PySem.W.keepIn K (.ref f) = true) (h : ∀ (kV doc pm : Value) (an : Option Addr) (cdv ct : Value) (us : List Value), us.length = ps.length → bindArgs (PySem.W.fnOf x x (defArgs st) (defBody st) (defScope st) .none kV doc pm an cdv ct) ⟨us, []⟩ = pure (ps.zip us)) : Wr K mg x st ps :=
  ⟨f, _, fun_mk l c k, PySem.W.mg_of X G a, (fun_mk l c k).binds h⟩
theorem walk {l : PySem.W.OpenLaw} {q : Program} {loose : List Str} {XP : (Str → Option Value) → Heap → Prop} {YP : World → Heap → Prop} {d : DefRec} {K : Params → PySem.W.Frag} {k : Nat} {x : Str} (hn : l.most = some 63) (hdf : d.params.defaults = []) (hr : Room k callerA)
    (hY : ∀ (w : World) (h : Heap), YP w h → (K w.params).In h)
    (F : ∀ (w : World) (mg : Str → Option Value) (fa : Addr) (h : Heap), (K w.params).In h → h.Ns mainGlobals mg → mg d.name = some (.ref fa) →
      ∃ fd : FuncData, (∀ (s : Shared) (u : Value), BindsTo s fd ⟨[u], []⟩ [(x, u)]) ∧ ∀ base : Heap, (K w.params).In base → base.Ns mainGlobals mg → FnG l.prog w (K w.params) mg base (L2.CX l.prog w) k fa fd [x] (spLaw (K w.params))) :
    PySem.W.WalkO q loose XP YP l.row.toRowW d [] (fun f vs => PySem.call f vs) := by
  refine Att.attach_call hn hdf fun w _ s1 mg mb fa _ _ _ _ a us ns G Y _ _ _ hmg scr hi hl g0 => ?_
  have KX := hY w _ Y
  obtain ⟨fd, bi, FF⟩ := F w mg fa _ KX G.T.g hmg
  exact law_goes KX G.T.g G.T.b G.T.builtins G.T.nolimit g0 scr hi (Nat.le_trans hl (by decide)) hr FF bi fun H _ hS => ⟨a, ns, rfl, hS, hl, fun _ => rfl⟩
end DL

/-! DL17: data in plain words: equality, places, cuts -/
noncomputable section
namespace DL
open PySem L2
/-! ### no truth value and no dict within: == is equality -/
mutual
def calmD : PyData → Bool
  | .none | .int _ | .str _ => true
  | .list xs | .tuple xs => calmA xs
  | _ => false
def calmA : List PyData → Bool
  | [] => true
  | x :: xs => calmD x && calmA xs
end
mutual
theorem eqv_calm : ∀ d e : PyData, calmD d = true → calmD e = true → (PyData.eqv d e = true ↔ d = e)
  | .none, e, _, h => by cases e <;> simp [PyData.eqv, calmD] at *
  | .int i, e, _, h => by cases e <;> simp [PyData.eqv, calmD] at *
  | .str i, e, _, h => by cases e <;> simp [PyData.eqv, calmD] at *
  | .list xs, e, h1, h => by
    cases e <;> simp [PyData.eqv, calmD] at *
    rename_i ys
    exact eqvAll_calm xs ys h1 h
  | .tuple xs, e, h1, h => by
    cases e <;> simp [PyData.eqv, calmD] at *
    rename_i ys
    exact eqvAll_calm xs ys h1 h
  | .bool _, _, h, _ => by simp [calmD] at h
  | .dict _, _, h, _ => by simp [calmD] at h
theorem eqvAll_calm : ∀ xs ys : List PyData, calmA xs = true → calmA ys = true → (PyData.eqvAll xs ys = true ↔ xs = ys)
  | [], ys, _, _ => by cases ys <;> simp [PyData.eqvAll]
  | x :: xs, ys, h1, h => by
    cases ys with
    | nil => simp [PyData.eqvAll]
    | cons y ys =>
      simp [calmA] at h1 h
      simp [PyData.eqvAll, eqv_calm x y h1.1 h.1, eqvAll_calm xs ys h1.2 h.2]
end
theorem eqv_dec {d e : PyData} {p : Prop} [Decidable p] (h1 : calmD d = true) (h2 : calmD e = true) (h : d = e ↔ p) : PyData.eqv d e = decide p := by
  rw [Bool.eq_iff_iff, eqv_calm d e h1 h2, h]
  simp
@[simp] theorem calm_int {i : Int} : calmD (.int i) = true := rfl
@[simp] theorem calm_str {i : Str} : calmD (.str i) = true := rfl
@[simp] theorem calm_none : calmD .none = true := rfl
@[simp] theorem calm_list {xs : List PyData} : calmD (.list xs) = calmA xs := rfl
@[simp] theorem calm_tuple {xs : List PyData} : calmD (.tuple xs) = calmA xs := rfl
@[simp] theorem calm_nil : calmA [] = true := rfl
@[simp] theorem calm_cons {x : PyData} {xs : List PyData} : calmA (x :: xs) = (calmD x && calmA xs) := rfl
@[simp] theorem calm_map {α : Type} {f : α → PyData} {l : List α} : calmA (l.map f) = l.all fun a => calmD (f a) := by
  induction l with
  | nil => rfl
  | cons a l ih => simp [ih]
@[simp] theorem calm_app {xs ys : List PyData} : calmA (xs ++ ys) = (calmA xs && calmA ys) := by
  induction xs with
  | nil => simp
  | cons a l ih => simp [ih, Bool.and_assoc]
theorem depthAll_le {xs : List PyData} {n : Nat} : PyData.depthAll xs ≤ n ↔ ∀ x ∈ xs, x.depth ≤ n := by
  induction xs with
  | nil => simp [PyData.depthAll]
  | cons x xs ih => simp [PyData.depthAll, ih, Nat.max_le]
@[simp] theorem dep_int {i : Int} : (PyData.int i).depth = 0 := rfl
@[simp] theorem dep_str {i : Str} : (PyData.str i).depth = 0 := rfl
@[simp] theorem dep_bool {i : Bool} : (PyData.bool i).depth = 0 := rfl
@[simp] theorem dep_none : (PyData.none).depth = 0 := rfl
@[simp] theorem dep_list {xs : List PyData} : (PyData.list xs).depth = PyData.depthAll xs + 1 := rfl
@[simp] theorem dep_tuple {xs : List PyData} : (PyData.tuple xs).depth = PyData.depthAll xs + 1 := rfl
@[simp] theorem dep_nil : PyData.depthAll [] = 0 := rfl
@[simp] theorem dep_cons {x : PyData} {xs : List PyData} : PyData.depthAll (x :: xs) = max x.depth (PyData.depthAll xs) := rfl
@[simp] theorem dep_ints {ns : List Int} : PyData.depthAll (ns.map .int) = 0 := by
  induction ns with
  | nil => rfl
  | cons a l ih => simp [ih]
theorem eqO_calm {d e : PyData} {p : Prop} [Decidable p] (h1 : calmD d = true) (h2 : calmD e = true) (hp : d = e ↔ p) (h : d.depth ≤ 60) : eqO d e = some (.val (.bool (decide p))) := by
  unfold eqO
  rw [if_pos (by omega), eqv_dec h1 h2 hp]
theorem neO_calm {d e : PyData} {p : Prop} [Decidable p] (h1 : calmD d = true) (h2 : calmD e = true) (hp : d = e ↔ p) (h : d.depth ≤ 60) : neO d e = some (.val (.bool (decide (¬ p)))) := by
  unfold neO
  rw [if_pos (by omega), eqv_dec h1 h2 hp]
  simp
theorem int_inj : Function.Injective PyData.int := fun a b h => by cases h; rfl
@[simp] theorem map_int_inj {ns ms : List Int} : ns.map PyData.int = ms.map PyData.int ↔ ns = ms := by
  constructor
  · exact fun h => (List.map_inj_right (fun a b h => int_inj h)).mp h
  · exact fun h => by rw [h]
@[simp] theorem x_eqI {a b : Int} : eqO (.int a) (.int b) = some (.val (.bool (decide (a = b)))) := eqO_calm rfl rfl (by simp) (by simp)
@[simp] theorem x_neI {a b : Int} : neO (.int a) (.int b) = some (.val (.bool (decide (¬ a = b)))) := neO_calm rfl rfl (by simp) (by simp)
@[simp] theorem x_eqB {a b : Bool} : eqO (.bool a) (.bool b) = some (.val (.bool (a == b))) := by simp [eqO, PyData.eqv]
@[simp] theorem x_neB {a b : Bool} : neO (.bool a) (.bool b) = some (.val (.bool (a != b))) := by simp [neO, PyData.eqv, bne]
@[simp] theorem x_eqS {a b : Str} : eqO (.str a) (.str b) = some (.val (.bool (decide (a = b)))) := eqO_calm rfl rfl (by simp) (by simp)
@[simp] theorem x_neS {a b : Str} : neO (.str a) (.str b) = some (.val (.bool (decide (¬ a = b)))) := neO_calm rfl rfl (by simp) (by simp)
@[simp] theorem x_eqL {a b : List Int} : eqO (.list (a.map .int)) (.list (b.map .int)) = some (.val (.bool (decide (a = b)))) := eqO_calm (by simp) (by simp) (by simp) (by simp)
@[simp] theorem x_neL {a b : List Int} : neO (.list (a.map .int)) (.list (b.map .int)) = some (.val (.bool (decide (¬ a = b)))) := neO_calm (by simp) (by simp) (by simp) (by simp)
theorem eqvAll_nil {ds : List PyData} : PyData.eqvAll ds [] = ds.isEmpty := by cases ds <;> rfl
@[simp] theorem x_eqDn {ds : List PyData} : eqO (.list ds) (.list []) = some (.val (.bool ds.isEmpty)) := by
  unfold eqO
  rw [if_pos (by simp)]
  simp [PyData.eqv, eqvAll_nil]
@[simp] theorem x_neDn {ds : List PyData} : neO (.list ds) (.list []) = some (.val (.bool (!ds.isEmpty))) := by
  unfold neO
  rw [if_pos (by simp)]
  simp [PyData.eqv, eqvAll_nil]
@[simp] theorem x_inL {a : Int} {ns : List Int} : inO (.int a) (.list (ns.map .int)) = some (.val (.bool (decide (a ∈ ns)))) := by
  unfold inO
  simp only [items, dep_ints, dep_int]
  rw [if_pos (by decide)]
  congr 3
  rw [Bool.eq_iff_iff]
  simp [PyData.eqv]
@[simp] theorem x_notInL {a : Int} {ns : List Int} : notInO (.int a) (.list (ns.map .int)) = some (.val (.bool (decide (¬ a ∈ ns)))) := by
  have h := x_inL (a := a) (ns := ns)
  unfold inO at h
  unfold notInO
  simp only [items, dep_ints, dep_int] at h ⊢
  rw [if_pos (by decide)] at h ⊢
  injection h with h
  injection h with h
  injection h with h
  rw [h]
  simp
theorem boolsD_map' {α : Type} {f : α → Bool} {l : List α} : boolsD (l.map fun a => .bool (f a)) = some (l.map f) := by
  induction l with
  | nil => rfl
  | cons a l ih => simp [boolsD, ih]
/-! ### places -/
theorem atI_nat {α : Type} {xs : List α} {k : Nat} : atI xs (k : Int) = xs[k]? := by
  unfold atI ixN
  rw [if_pos (by omega)]
  by_cases h : k < xs.length
  · rw [if_pos (by omega)]; simp
  · rw [if_neg (by omega)]; simp; omega
theorem atI_pos {α : Type} {xs : List α} {i : Int} (h : 0 ≤ i) : atI xs i = xs[i.toNat]? := by
  obtain ⟨k, rfl⟩ := Int.eq_ofNat_of_zero_le h
  exact atI_nat
@[simp] theorem atI_0 {α : Type} {xs : List α} : atI xs 0 = xs[0]? := atI_nat (k := 0)
@[simp] theorem atI_1 {α : Type} {xs : List α} : atI xs 1 = xs[1]? := atI_nat (k := 1)
@[simp] theorem atI_2 {α : Type} {xs : List α} : atI xs 2 = xs[2]? := atI_nat (k := 2)
theorem atI_mapF {α β : Type} {f : α → β} {xs : List α} {i : Int} : atI (xs.map f) i = (atI xs i).map f := by
  unfold atI
  rw [List.length_map]
  cases ixN xs.length i with
  | none => rfl
  | some j => simp
theorem atI_some {α : Type} {xs : List α} {i : Int} (h0 : 0 ≤ i) (h : i < xs.length) : ∃ x, atI xs i = some x ∧ x ∈ xs := by
  rw [atI_pos h0]
  exact ⟨xs[i.toNat]'(by omega), List.getElem?_eq_getElem _, List.getElem_mem _⟩
theorem idxO_ints {a : Int} {ns : List Int} : idxO (ns.map .int) (.int a) = ns.findIdx? (· == a) := by
  unfold idxO
  rw [if_pos (by simp [flatD])]
  rw [List.findIdx?_map]
  congr 1
theorem idxO_mem {a : Int} {ns : List Int} (h : a ∈ ns) : idxO (ns.map .int) (.int a) = some (ns.idxOf a) := by
  rw [idxO_ints, List.findIdx?_eq_some_of_exists ⟨a, h, by simp⟩]
  rfl
/-! ### cuts -/
def cutI {α : Type} (xs : List α) (lo hi : Option Int) : List α := (xs.drop (HT.sIx xs.length 0 lo)).take (HT.sIx xs.length xs.length hi - HT.sIx xs.length 0 lo)
theorem cutD_map {α : Type} {f : α → PyData} {xs : List α} {lo hi : Option Int} : cutD (xs.map f) lo hi = (cutI xs lo hi).map f := by
  unfold cutD cutI
  simp [List.map_drop, List.map_take]
theorem sIx_nat {n d k : Nat} : HT.sIx n d (some (k : Int)) = min k n := by
  unfold HT.sIx
  simp
  try omega
theorem sIx_none {n d : Nat} : HT.sIx n d none = d := rfl
theorem cut_to {α : Type} {xs : List α} {k : Nat} : cutI xs none (some (k : Int)) = xs.take k := by
  unfold cutI
  rw [sIx_nat, sIx_none]
  simp
theorem cut_from {α : Type} {xs : List α} {k : Nat} : cutI xs (some (k : Int)) none = xs.drop k := by
  unfold cutI
  rw [sIx_nat, sIx_none]
  by_cases h : k ≤ xs.length
  · rw [Nat.min_eq_left h]
    apply List.take_of_length_le
    simp
  · rw [Nat.min_eq_right (by omega)]
    simp
    omega
/-! ### a set's length -/
theorem nub_len {ns : List Int} (h : ns.Nodup) : (nubI ns).length = ns.length := by
  unfold nubI
  have key : ∀ (i : Nat), i ≤ ns.length → PyProof.Rows.firstMet (fun i => ns.getD i 0) i = ns.take i := by
    intro i
    induction i with
    | zero => intro _; simp [PyProof.Rows.firstMet_zero]
    | succ i ih =>
      intro hi
      rw [PyProof.Rows.firstMet_succ, ih (by omega)]
      have e : ns.getD i 0 = ns[i] := by simp [List.getD_eq_getElem?_getD, List.getElem?_eq_getElem (by omega : i < ns.length)]
      rw [e, List.take_add_one, List.getElem?_eq_getElem (by omega : i < ns.length)]
      unfold PyProof.Rows.step_dedup
      have nin : ((ns.take i).any (· == ns[i])) = false := by
        rw [Bool.eq_false_iff]
        intro hc
        simp only [List.any_eq_true, beq_iff_eq, List.mem_take_iff_getElem] at hc
        obtain ⟨x, ⟨j, hj, rfl⟩, e⟩ := hc
        have := (List.getElem_inj h).mp e
        omega
      first
        | (rw [if_neg (by simp [nin])]; rfl)
        | (simp only [nin]; rfl)
        | simp_all
  rw [key _ (Nat.le_refl _), List.take_length]
/-! ### bounds -/
theorem log_lt {a : Int} {k : Nat} (h : a.natAbs < 2 ^ (k + 1)) : a.natAbs.log2 ≤ k := by
  by_cases h0 : a.natAbs = 0
  · rw [h0]; exact Nat.zero_le _
  · have := (Nat.log2_lt h0).mpr h
    omega
theorem log_small {a : Int} (h0 : -(2 ^ 200) < a) (h : a < 2 ^ 200) : a.natAbs.log2 < 200 := by
  have : a.natAbs < 2 ^ (199 + 1) := by
    have : (a.natAbs : Int) < 2 ^ 200 := by omega
    exact_mod_cast this
  have := log_lt this
  omega
theorem fdiv_ok {a b : Int} (h : 0 < b) (h2 : b < 2 ^ 200) : fdivO (.int a) (.int b) = some (.val (.int (a / b))) := by
  have := log_small (by omega) h2
  rw [x_fdiv, if_pos ⟨h, by unfold lgD; omega⟩]
theorem mod_ok {a b : Int} (h : 0 < b) : modO (.int a) (.int b) = some (.val (.int (a % b))) := by
  rw [x_mod, if_pos h]
theorem mul_ok {a b : Int} (h0 : -(2 ^ 200) < a) (h : a < 2 ^ 200) (h1 : -(2 ^ 200) < b) (h2 : b < 2 ^ 200) : mulO (.int a) (.int b) = some (.val (.int (a * b))) := by
  have := log_small h0 h
  have := log_small h1 h2
  rw [x_mul, if_pos (by unfold lgM; omega)]
@[simp] theorem pow_ok {a b : Int} (h0 : -(2 ^ 200) < a) (h : a < 2 ^ 200) (h1 : 0 ≤ b) (h2 : b ≤ 30000) : powO (.int a) (.int b) = some (.val (.int (a ^ b.toNat))) := by
  have := log_small h0 h
  rw [x_pow, if_pos ⟨h1, h2, by unfold lgP; omega⟩]
@[simp] theorem fdiv_lit {a : Int} {k : Nat} (h : 0 < k) (h2 : k < 2 ^ 200) : fdivO (.int a) (.int (no_index (OfNat.ofNat k))) = some (.val (.int (a / (OfNat.ofNat k)))) := fdiv_ok (by
    show (0 : Int) < (k : Int)
    omega) (by
    show (k : Int) < 2 ^ 200
    omega)
@[simp] theorem mod_lit {a : Int} {k : Nat} (h : 0 < k) : modO (.int a) (.int (no_index (OfNat.ofNat k))) = some (.val (.int (a % (OfNat.ofNat k)))) := mod_ok (by
    show (0 : Int) < (k : Int)
    omega)
/-! ### loops and comprehensions over the images of a list -/
theorem loopF_map {α : Type} {b : Bd} {p : DSt → Flow} {f : α → PyData} {l : List α} {s : DSt} (Inv : Nat → DSt → Prop) (h0 : Inv 0 s) (step : ∀ (i : Nat) (a : α) (s : DSt), l[i]? = some a → Inv i s → ∃ s1 s2, b (f a) s = some s1 ∧ p s1 = .next s2 ∧ Inv (i + 1) s2) : ∃ s', loopF b p (l.map f) s = .next s' ∧ Inv l.length s' := by
  have := loopF_inv (b := b) (p := p) (ds := l.map f) Inv h0 fun i d s hd h => by
    rw [List.getElem?_map] at hd
    cases e : l[i]? with
    | none => rw [e] at hd; cases hd
    | some a =>
      rw [e] at hd
      cases hd
      exact step i a s e h
  rw [List.length_map] at this
  exact this
def Nx (x : Flow) (Q : DSt → Prop) : Prop := ∃ s, x = .next s ∧ Q s
@[simp] theorem nx_next {s : DSt} {Q : DSt → Prop} : Nx (.next s) Q ↔ Q s := ⟨fun ⟨_, e, h⟩ => by cases e; exact h, fun h => ⟨s, rfl, h⟩⟩
def bod (b : Bd) (p : DSt → Flow) (d : PyData) (s : DSt) : Flow := match b d s with
  | some s' => p s'
  | none => .stuck
@[simp] theorem x_bod {b : Bd} {p : DSt → Flow} {d : PyData} {s : DSt} : bod b p d s = (match b d s with | some s' => p s' | none => .stuck) := Eq.trans rfl rfl
theorem loopN {α : Type} {b : Bd} {p : DSt → Flow} {f : α → PyData} {l : List α} {s : DSt} (Inv : Nat → DSt → Prop) (h0 : Inv 0 s) (step : ∀ (i : Nat) (a : α) (s : DSt), l[i]? = some a → a ∈ l → Inv i s → Nx (bod b p (f a) s) (Inv (i + 1))) : ∃ s', loopF b p (l.map f) s = .next s' ∧ Inv l.length s' :=
  loopF_map Inv h0 fun i a s hi h => by
    obtain ⟨s2, e, h2⟩ := step i a s hi (List.mem_of_getElem? hi) h
    unfold bod at e
    split at e
    · rename_i s1 e1
      exact ⟨s1, s2, e1, e, h2⟩
    · cases e
theorem take_succ {α : Type} {l : List α} {i : Nat} {a : α} (h : l[i]? = some a) : l.take (i + 1) = l.take i ++ [a] := by
  rw [List.take_add_one, h]
  rfl
theorem range_at {n i a : Nat} (h : (List.range n)[i]? = some a) : a = i ∧ i < n := by
  have hi : i < n := by have := (List.getElem?_eq_some_iff.mp h).1; simpa using this
  simp [hi] at h
  exact ⟨h.symm, hi⟩
theorem loopC_gen {α : Type} {b : Bd} {ft : M Bool} {fe : M R} {vs : List Nat} {s : DSt} {f : α → PyData} (sb : α → DSt) (keep : α → Bool) (g : α → PyData) (hn : noOwn vs s.d = true) : ∀ (l : List α) (acc : List PyData),
    (∀ a ∈ l, b (f a) ⟨blank vs s.d, s.w⟩ = some (sb a)) → (∀ a ∈ l, (⟨putBack vs s.d (sb a).d, (sb a).w⟩ : DSt) = s) → (∀ a ∈ l, ft (sb a) = .ok (keep a) (sb a)) → (∀ a ∈ l, keep a = true → (fe (sb a)).bind fEsc = .ok (.val (g a)) (sb a)) →
    loopC b ft fe vs (l.map f) acc s = .ok (acc ++ (l.filter keep).map g) s
  | [], acc, _, _, _, _ => by simp [loopC]
  | d :: ds, acc, h1, h2, h3, h4 => by
    have ih := fun acc => loopC_gen sb keep g hn ds acc (fun d hd => h1 d (List.mem_cons_of_mem _ hd)) (fun d hd => h2 d (List.mem_cons_of_mem _ hd)) (fun d hd => h3 d (List.mem_cons_of_mem _ hd)) (fun d hd => h4 d (List.mem_cons_of_mem _ hd))
    have e1 := h1 d List.mem_cons_self
    have e2 := h2 d List.mem_cons_self
    have e3 := h3 d List.mem_cons_self
    rw [List.map_cons]
    unfold loopC
    rw [if_pos hn, e1]
    dsimp only
    rw [e3]
    cases k : keep d with
    | false =>
      show loopC b ft fe vs (ds.map f) acc _ = _
      rw [e2, ih]
      simp [k]
    | true =>
      have e4 := h4 d List.mem_cons_self k
      show (nerr (bnd fe fEsc (sb d))).bind _ = _
      rw [bnd_app, e4]
      show loopC b ft fe vs (ds.map f) (acc ++ [g d]) _ = _
      rw [e2, ih]
      simp [k]
theorem lc_gen {α : Type} {fi : M (List PyData)} {b : Bd} {ft : M Bool} {fe : M R} {vs : List Nat} {s s1 : DSt} {f : α → PyData} {l : List α} (sb : α → DSt) (keep : α → Bool) (g : α → PyData) (hi : fi s = .ok (l.map f) s1) (hl : l.length ≤ 100000) (hn : noOwn vs s1.d = true)
    (h1 : ∀ a ∈ l, b (f a) ⟨blank vs s1.d, s1.w⟩ = some (sb a)) (h2 : ∀ a ∈ l, (⟨putBack vs s1.d (sb a).d, (sb a).w⟩ : DSt) = s1) (h3 : ∀ a ∈ l, ft (sb a) = .ok (keep a) (sb a)) (h4 : ∀ a ∈ l, keep a = true → (fe (sb a)).bind fEsc = .ok (.val (g a)) (sb a)) :
    fLc fi b ft fe vs s = .ok (.new ((l.filter keep).map g)) s1 := by
  have hl2 : leS (l.map f).length := by rw [List.length_map]; exact size_le hl
  unfold fLc
  simp only [bnd_app, hi, bind_ok, if_pos hl2]
  rw [loopC_gen sb keep g hn l [] h1 h2 h3 h4]
  simp
theorem lc_all {α : Type} {fi : M (List PyData)} {b : Bd} {fe : M R} {vs : List Nat} {s s1 : DSt} {f : α → PyData} {l : List α} (sb : α → DSt) (g : α → PyData) (hi : fi s = .ok (l.map f) s1) (hl : l.length ≤ 100000) (hn : noOwn vs s1.d = true)
    (h1 : ∀ a ∈ l, b (f a) ⟨blank vs s1.d, s1.w⟩ = some (sb a)) (h2 : ∀ a ∈ l, (⟨putBack vs s1.d (sb a).d, (sb a).w⟩ : DSt) = s1) (h4 : ∀ a ∈ l, (fe (sb a)).bind fEsc = .ok (.val (g a)) (sb a)) :
    fLc fi b fYes fe vs s = .ok (.new (l.map g)) s1 := by
  rw [lc_gen (ft := fYes) sb (fun _ => true) g hi hl hn h1 h2 (fun _ _ => rfl) (fun a ha _ => h4 a ha), List.filter_eq_self.mpr (fun _ _ => rfl)]
/-! ### loops whose states are known -/
end DL

/-! DL18: more pieces: three at once; sorted(set(..)) -/
noncomputable section
namespace DL
open PySem L2 PyProof.Rows
open Evl (Ex)
section
variable {X : Cx} {cl : String → Addr} {W : WX} {e a b c : Expr} {es : List Expr} {f g : M R} {fs : M (List R)} {pos : Pos} {p q : DSt → Flow}
def kPar3 (i j l : Nat) (rs : List R) (s : DSt) : Flow := match rs with
  | [r1, r2, r3] => if i < s.d.length ∧ j < s.d.length ∧ l < s.d.length then .next (putS l (toSl r3) (putS j (toSl r2) (putS i (toSl r1) s))) else .stuck
  | _ => .stuck
@[simp] theorem y_kPar3 (i j l : Nat) (rs : List R) (s : DSt) : kPar3 i j l rs s = (match rs with | [r1, r2, r3] => if i < s.d.length ∧ j < s.d.length ∧ l < s.d.length then .next (putS l (toSl r3) (putS j (toSl r2) (putS i (toSl r1) s))) else .stuck | _ => .stuck) := Eq.trans rfl rfl
def fPar3 (i j l : Nat) (fs : M (List R)) : DSt → Flow := fun s => onRes (fs s) (kPar3 i j l)
@[simp] theorem x_par3 {i j l : Nat} {s : DSt} : fPar3 i j l fs s = onRes (fs s) (kPar3 i j l) := Eq.trans rfl rfl
end
/-! ### loops with a state, that may hand back -/
def foldS {α β : Type} (step : β → α → Sum β R) : β → List α → Sum β R
  | x, [] => .inl x
  | x, a :: l => match step x a with
    | .inl y => foldS step y l
    | .inr r => .inr r
theorem loopS {α β : Type} {b : Bd} {p : DSt → Flow} {f : α → PyData} {l : List α} {s : DSt} {x : β} (step : β → α → Sum β R) (Inv : β → DSt → Prop) (Post : R → DSt → Prop) (h0 : Inv x s)
    (h : ∀ a ∈ l, ∀ x s, Inv x s → (∀ y, step x a = .inl y → Nx (bod b p (f a) s) (Inv y)) ∧ (∀ r, step x a = .inr r → ∃ s', bod b p (f a) s = .ret r s' ∧ Post r s')) :
    (∀ y, foldS step x l = .inl y → ∃ s', loopF b p (l.map f) s = .next s' ∧ Inv y s') ∧ (∀ r, foldS step x l = .inr r → ∃ s', loopF b p (l.map f) s = .ret r s' ∧ Post r s') := by
  induction l generalizing s x with
  | nil => exact ⟨fun y e => by cases e; exact ⟨s, rfl, h0⟩, fun r e => by cases e⟩
  | cons a l ih =>
    obtain ⟨h1, h2⟩ := h a List.mem_cons_self x s h0
    have un : ∀ x, bod b p (f a) s = x → loopF b p ((a :: l).map f) s = (match x with | .next s2 => loopF b p (l.map f) s2 | .cnt s2 => loopF b p (l.map f) s2 | .brk s2 => .next s2 | y => y) := fun x e => by
      rw [List.map_cons]
      conv => lhs; unfold loopF
      unfold bod at e
      cases hb : b (f a) s with
      | none => rw [hb] at e; subst e; rfl
      | some s1 =>
        rw [hb] at e
        dsimp only at e ⊢
        rw [e]
        cases x <;> rfl
    cases k : step x a with
    | inl y =>
      obtain ⟨s2, e, hi⟩ := h1 y k
      have := ih (x := y) hi fun a ha => h a (List.mem_cons_of_mem _ ha)
      rw [un _ e]
      have ef : foldS step x (a :: l) = foldS step y l := by
        conv => lhs; unfold foldS
        rw [k]
      rw [ef]
      exact this
    | inr r =>
      obtain ⟨s2, e, hp⟩ := h2 r k
      rw [un _ e]
      have ef : foldS step x (a :: l) = .inr r := by
        conv => lhs; unfold foldS
        rw [k]
      rw [ef]
      exact ⟨fun y e => by (cases e), fun r2 e => by cases e; exact ⟨s2, rfl, hp⟩⟩
theorem loopSi {α β : Type} {b : Bd} {p : DSt → Flow} {f : α → PyData} {l : List α} {s : DSt} {x : β} (step : β → α → Sum β R) (Inv : Nat → β → DSt → Prop) (Post : R → DSt → Prop) (h0 : Inv 0 x s)
    (h : ∀ i a, l[i]? = some a → a ∈ l → ∀ x s, Inv i x s → (∀ y, step x a = .inl y → Nx (bod b p (f a) s) (Inv (i + 1) y)) ∧ (∀ r, step x a = .inr r → ∃ s', bod b p (f a) s = .ret r s' ∧ Post r s')) :
    (∀ y, foldS step x l = .inl y → ∃ s', loopF b p (l.map f) s = .next s' ∧ Inv l.length y s') ∧ (∀ r, foldS step x l = .inr r → ∃ s', loopF b p (l.map f) s = .ret r s' ∧ Post r s') := by
  induction l generalizing s x Inv with
  | nil => exact ⟨fun y e => by cases e; exact ⟨s, rfl, h0⟩, fun r e => by cases e⟩
  | cons a l ih =>
    obtain ⟨h1, h2⟩ := h 0 a rfl List.mem_cons_self x s h0
    have un : ∀ x, bod b p (f a) s = x → loopF b p ((a :: l).map f) s = (match x with | .next s2 => loopF b p (l.map f) s2 | .cnt s2 => loopF b p (l.map f) s2 | .brk s2 => .next s2 | y => y) := fun x e => by
      rw [List.map_cons]
      conv => lhs; unfold loopF
      unfold bod at e
      cases hb : b (f a) s with
      | none => rw [hb] at e; subst e; rfl
      | some s1 =>
        rw [hb] at e
        dsimp only at e ⊢
        rw [e]
        cases x <;> rfl
    cases k : step x a with
    | inl y =>
      obtain ⟨s2, e, hi⟩ := h1 y k
      have := ih (x := y) (Inv := fun i => Inv (i + 1)) hi fun i a hi ha => h (i + 1) a (by simpa using hi) (List.mem_cons_of_mem _ ha)
      rw [un _ e]
      have ef : foldS step x (a :: l) = foldS step y l := by
        conv => lhs; unfold foldS
        rw [k]
      rw [ef]
      exact this
    | inr r =>
      obtain ⟨s2, e, hp⟩ := h2 r k
      rw [un _ e]
      have ef : foldS step x (a :: l) = .inr r := by
        conv => lhs; unfold foldS
        rw [k]
      rw [ef]
      exact ⟨fun y e => by (cases e), fun r2 e => by cases e; exact ⟨s2, rfl, hp⟩⟩
theorem max_ints {ns : List Int} (h : ns ≠ []) : maxO [.list (ns.map .int)] = some (.val (.int (maxI ns))) := by
  cases ns with
  | nil => exact absurd rfl h
  | cons n ns =>
    show (match intsD ((n :: ns).map .int) with | some (n :: ns) => some (R.val (.int (maxI (n :: ns)))) | _ => none) = _
    rw [intsD_map]
theorem min_ints {ns : List Int} (h : ns ≠ []) : minO [.list (ns.map .int)] = some (.val (.int (minI ns))) := by
  cases ns with
  | nil => exact absurd rfl h
  | cons n ns =>
    show (match intsD ((n :: ns).map .int) with | some (n :: ns) => some (R.val (.int (minI (n :: ns)))) | _ => none) = _
    rw [intsD_map]
end DL

/-! DL19: e[:0:-1]; list(range(..)); sorted(set(..)) of ints -/
noncomputable section
namespace DL
open PySem L2 PyProof.Rows
open Evl (Ex)
/-! ### e[:0:-1] -/
section
variable {X : Cx} {cl : String → Addr} {W : WX} {e a b c : Expr} {es : List Expr} {f g : M R} {fs : M (List R)} {pos : Pos} {p q : DSt → Flow}
def tRevTo (K : PySem.W.Frag) (te : TE) : TE := fun σ H Q => te σ H fun x H1 => ∃ a xs, x = .ref a ∧ SqL K H1 a xs ∧ ∀ p, H1 p = none → Q (.ref p) (upd H1 p (.lst (xs.drop 1).reverse))
def revToO : PyData → Option R
  | .list ds => some (.new (ds.drop 1).reverse)
  | _ => none
@[simp] theorem x_revTo {ds : List PyData} : revToO (.list ds) = some (.new (ds.drop 1).reverse) := Eq.trans rfl rfl
/-! ### list(range(..)) -/
theorem rgV_rp {K : PySem.W.Frag} {G : Hp} (a b : Int) : RpAll K G (rgV a b) (rangeD a (b - a).toNat) := by
  unfold rgV rangeD
  generalize (b - a).toNat = n
  have : ∀ l : List Nat, RpAll K G (l.map fun i => V.int (a + (i : Nat))) (l.map fun i => PyData.int (a + (i : Nat))) := by
    intro l
    induction l with
    | nil => exact .nil
    | cons x l ih => exact .cons (.int _) ih
  exact this _
def rgS (a b : Int) : Prop := RgOk a b
instance (a b : Int) : Decidable (rgS a b) := Classical.propDecidable _
@[simp] theorem rgS_of {a b : Int} (h0 : 0 ≤ a) (h1 : b ≤ 16777216) (h2 : a ≤ 16777216) (h3 : 0 ≤ b) : rgS a b := RgOk.of_le h0 h1 h2 h3
def kLRng (a : Int) (r : R) (s : DSt) : Res R := match look r s with
  | some (.int b) => if rgS a b then .ok (.new (rangeD a (b - a).toNat)) s else .stuck
  | _ => .stuck
@[simp] theorem y_kLRng (a : Int) (r : R) (s : DSt) : kLRng a r s = (match look r s with | some (.int b) => if rgS a b then .ok (.new (rangeD a (b - a).toNat)) s else .stuck | _ => .stuck) := Eq.trans rfl rfl
def fLRng1 (f : M R) : M R := bnd f (kLRng 0)
@[simp] theorem x_lRng1 {f : M R} {s : DSt} : fLRng1 f s = (f s).bind (kLRng 0) := Eq.trans rfl rfl
theorem d_lRng1 {p p2 q pos : Pos} (hc : X.calm = true) (hg : Gl X "list") (hm : X.mg "list" = none) (hg2 : Gl X "range") (hm2 : X.mg "range" = none) (ha : DE X cl W a f)
    (na : starEach [a] X.env = (false, eval a X.env) :: starEach [] X.env := by rfl) (na2 : starEach [.Call (.Name "range" p2) [a] [] q] X.env = (false, eval (.Call (.Name "range" p2) [a] [] q) X.env) :: starEach [] X.env := by rfl) :
    DE X cl W (.Call (.Name "list" p) [.Call (.Name "range" p2) [a] [] q] [] pos) (fLRng1 f) := by
  refine pe_imp (pe_listRg hc hg hm (prg_1 hg2 hm2 ha na) na2) fun σ H Q ⟨G, s, S, q⟩ => ?_
  refine ⟨G, s, S, out_mono (out_bind q) fun x G1 s1 H1 st1 S1 k v rr => ?_⟩
  unfold kLRng at k
  split at k
  · rename_i n e1
    split at k
    · rename_i hz
      refine ⟨n, dq_int (look_q S1 rr e1), hz, fun q hq => ?_⟩
      obtain ⟨st2, S2, r2⟩ := new_list (H0 := H) S1 hq (rgV_rp 0 n) st1.dom
      exact k _ _ st2 S2 _ r2
    · exact k.elim
  · exact k.elim
def kLRng2 (g : M R) (r : R) (s : DSt) : Res R := match look r s with
  | some (.int a) => (g s).bind (kLRng a)
  | _ => .stuck
@[simp] theorem y_kLRng2 (g : M R) (r : R) (s : DSt) : kLRng2 g r s = (match look r s with | some (.int a) => (g s).bind (kLRng a) | _ => .stuck) := Eq.trans rfl rfl
def fLRng2 (f g : M R) : M R := bnd f (kLRng2 g)
@[simp] theorem x_lRng2 {f g : M R} {s : DSt} : fLRng2 f g s = (f s).bind (kLRng2 g) := Eq.trans rfl rfl
end
end DL

/-! DL20: str of data -/
noncomputable section
namespace DL
open PySem L2 PyProof.Rows
open Evl (Ex)
def showOk (d : PyData) : Prop := d.showable = true ∧ d.hasDict = false ∧ d.shown.length ≤ sizeLine ∧ d.depth ≤ 60
instance (d : PyData) : Decidable (showOk d) := Classical.propDecidable _
def lgT (i : Int) : Prop := i.natAbs.log2 < 1920
instance (i : Int) : Decidable (lgT i) := Classical.propDecidable _
def strO (d : PyData) : Option R := match d with
  | .int i => if lgT i then some (.val (.str (Str.ofString (toString i)))) else none
  | .str x => some (.val (.str x))
  | .list ds => if showOk (.list ds) then some (.val (.str (PyData.list ds).shown)) else none
  | .tuple ds => if showOk (.tuple ds) then some (.val (.str (PyData.tuple ds).shown)) else none
  | _ => none
def kStr (r : R) (s : DSt) : Res R := match look r s with
  | some d => (match strO d with
    | some r => .ok r s
    | none => .stuck)
  | none => .stuck
@[simp] theorem y_kStr (r : R) (s : DSt) : kStr r s = (match look r s with | some d => (match strO d with | some r => .ok r s | none => .stuck) | none => .stuck) := Eq.trans rfl rfl
def fStr (f : M R) : M R := bnd f kStr
@[simp] theorem x_str {f : M R} {s : DSt} : fStr f s = (f s).bind kStr := Eq.trans rfl rfl
section
variable {X : Cx} {cl : String → Addr} {W : WX} {e a b c : Expr} {es : List Expr} {f g : M R} {fs : M (List R)} {pos : Pos} {p q : DSt → Flow}
def rStr (K : PySem.W.Frag) : List V → Hp → VK → Prop := fun vs H Q => (∃ i, vs = [.int i] ∧ i.natAbs.log2 < 1920 ∧ Q (.str (Str.ofString (toString i))) H) ∨ (∃ x, vs = [.str x] ∧ Q (.str x) H) ∨
  ∃ a d, vs = [.ref a] ∧ Dp K H (.ref a) d ∧ showOk d ∧ Q (.str d.shown) H
end
/-! ### how long what is shown is -/
mutual
def wgt : PyData → Nat
  | .list xs | .tuple xs => wgtA xs + 10
  | .str x => 10 * x.length + 100
  | _ => 100
def wgtA : List PyData → Nat
  | [] => 0
  | x :: xs => wgt x + 2 + wgtA xs
end
mutual
def smallD : PyData → Bool
  | .none | .bool _ => true
  | .int i => decide (i.natAbs < 10 ^ 90)
  | .list xs | .tuple xs => smallA xs
  | .str x => x.cps.toList.all fun c => decide (c < 16 ^ 8)
  | _ => false
def smallA : List PyData → Bool
  | [] => true
  | x :: xs => smallD x && smallA xs
end
theorem int_shown {i : Int} (h : i.natAbs < 10 ^ 90) : (Str.ofString (toString i)).length ≤ 91 := by
  rw [ofString_len]
  cases i with
  | ofNat m =>
    have := digits10_le (k := 90) (n := m) (by decide) h
    show (Nat.repr m).length ≤ _
    simp [Nat.repr]
    omega
  | negSucc m =>
    have := digits10_le (k := 90) (n := m + 1) (by decide) h
    show ("-" ++ Nat.repr (m + 1)).length ≤ _
    have h1 : "-".length = 1 := by first | rfl | decide
    simp [Nat.repr, h1]
    omega
theorem listText_le (ts : List Str) : (listText ts).length ≤ piled ts + 4 := by
  unfold listText
  rw [strLen_append]
  have e1 : (("]" : String) : Str).length = 1 := rfl
  have e2 : (("[" : String) : Str).length = 1 := rfl
  rw [e1]
  cases ts with
  | nil => show (("[" : String) : Str).length + 1 ≤ _; rw [e2]; omega
  | cons t ts =>
    show (textFrom (0 + 1) _ ts).length + 1 ≤ _
    rw [textFrom_length_pos _ _ _ (by decide), strLen_append, strLen_append, e2, piled_cons]
    have : (((if 0 > 0 then ", " else "" : String) : Str)).length = 0 := rfl
    omega
theorem tupleText_le (ts : List Str) : (tupleText ts).length ≤ piled ts + 4 := by
  unfold tupleText
  rw [strLen_append, strLen_append]
  have e1 : ((("(" : String) : Str)).length = 1 := rfl
  have e3 : (((if ts.length == 1 then ",)" else ")" : String) : Str)).length ≤ 2 := by split <;> decide
  rw [e1]
  by_cases h : ts = []
  · subst h
    have : (Str.join ", " []).length = 0 := rfl
    omega
  · have := join_length_add ts h
    omega
mutual
theorem shown_le : ∀ d : PyData, smallD d = true → d.shown.length ≤ wgt d ∧ d.showable = true ∧ d.hasDict = false
  | .none, _ => ⟨by show (("None" : String) : Str).length ≤ 100; decide, rfl, rfl⟩
  | .bool b, _ => ⟨by cases b <;> (first | (show (("True" : String) : Str).length ≤ 100; decide) | (show (("False" : String) : Str).length ≤ 100; decide)), rfl, rfl⟩
  | .int i, h => by
    have hi : i.natAbs < 10 ^ 90 := by simpa [smallD] using h
    refine ⟨?_, ?_, rfl⟩
    · have := int_shown hi
      show (Str.ofString (toString i)).length ≤ 100
      omega
    · simp only [PyData.showable, decide_eq_true_eq]
      exact Nat.lt_of_le_of_lt (log_lt (k := 299) (Nat.lt_of_lt_of_le hi (by decide +kernel))) (by decide)
  | .list xs, h => by
    obtain ⟨h1, h2, h3⟩ := shownA_le xs (by simpa [smallD] using h)
    refine ⟨?_, by simpa [PyData.showable] using h2, by simpa [PyData.hasDict] using h3⟩
    have := listText_le (PyData.shownAll xs)
    simp only [PyData.shown, wgt]
    omega
  | .tuple xs, h => by
    obtain ⟨h1, h2, h3⟩ := shownA_le xs (by simpa [smallD] using h)
    refine ⟨?_, by simpa [PyData.showable] using h2, by simpa [PyData.hasDict] using h3⟩
    have := tupleText_le (PyData.shownAll xs)
    simp only [PyData.shown, wgt]
    omega
  | .str x, h => by
    refine ⟨?_, rfl, rfl⟩
    have := PySem.StrLaws.reprText_len x fun c hc => by
      have h : (x.cps.toList.all fun c => decide (c < 16 ^ 8)) = true := h
      exact of_decide_eq_true (List.all_eq_true.mp h c hc)
    show (reprText x).length ≤ 10 * x.length + 100
    omega
  | .dict _, h => by simp [smallD] at h
theorem shownA_le : ∀ xs : List PyData, smallA xs = true → piled (PyData.shownAll xs) ≤ wgtA xs ∧ PyData.showableAll xs = true ∧ PyData.hasDictAll xs = false
  | [], _ => ⟨Nat.le_refl _, rfl, rfl⟩
  | x :: xs, h => by
    simp only [smallA, Bool.and_eq_true] at h
    obtain ⟨a1, a2, a3⟩ := shown_le x h.1
    obtain ⟨b1, b2, b3⟩ := shownA_le xs h.2
    simp only [PyData.shownAll, PyData.showableAll, PyData.hasDictAll, piled_cons, wgtA, a2, a3, b2, b3]
    refine ⟨by omega, rfl, rfl⟩
end
@[simp] theorem wgtA_ints {ns : List Int} : wgtA (ns.map .int) = 102 * ns.length := by
  induction ns with
  | nil => rfl
  | cons a l ih => simp only [List.map_cons, wgtA, wgt, ih, List.length_cons]; omega
theorem smallA_ints {ns : List Int} (h : ∀ x ∈ ns, x.natAbs < 10 ^ 90) : smallA (ns.map .int) = true := by
  induction ns with
  | nil => rfl
  | cons a l ih => simp only [List.map_cons, smallA, smallD, Bool.and_eq_true, decide_eq_true_eq]; exact ⟨h a List.mem_cons_self, ih fun x hx => h x (List.mem_cons_of_mem _ hx)⟩
@[simp] theorem wgt_list {xs : List PyData} : wgt (.list xs) = wgtA xs + 10 := rfl
@[simp] theorem wgt_tuple {xs : List PyData} : wgt (.tuple xs) = wgtA xs + 10 := rfl
@[simp] theorem wgt_int {i : Int} : wgt (.int i) = 100 := rfl
@[simp] theorem wgtA_nil : wgtA [] = 0 := rfl
@[simp] theorem wgtA_cons {x : PyData} {xs : List PyData} : wgtA (x :: xs) = wgt x + 2 + wgtA xs := rfl
@[simp] theorem small_list {xs : List PyData} : smallD (.list xs) = smallA xs := rfl
@[simp] theorem small_tuple {xs : List PyData} : smallD (.tuple xs) = smallA xs := rfl
@[simp] theorem small_nil : smallA [] = true := rfl
@[simp] theorem small_cons {x : PyData} {xs : List PyData} : smallA (x :: xs) = (smallD x && smallA xs) := rfl
end DL

/-! DL21: a call that only looks: own lists that are handed in stay own -/
noncomputable section
namespace DL
open PySem L2 PyProof.Rows
open Evl (Ex)
def atomD : PyData → Bool
  | .none | .bool _ | .int _ | .str _ => true
  | _ => false
def atomR : R → Bool
  | .val d => atomD d
  | .raw _ => false
  | .ob _ => false
  | .new ds => ds.all atomD
  | .slot _ => false
theorem rp_atom {K : PySem.W.Frag} {G G' : Hp} {v : V} {d : PyData} (h : Rp K G v d) (a : atomD d = true) : Rp K G' v d := by
  cases d <;> simp [atomD] at a <;> cases h
  · exact .non
  · exact .bl _
  · exact .int _
  · exact .str _
theorem rps_atom {K : PySem.W.Frag} {G G' : Hp} : ∀ {ds : List PyData} {vs : List V}, RpAll K G vs ds → ds.all atomD = true → RpAll K G' vs ds
  | [], _, h, _ => by cases h; exact .nil
  | d :: ds, _, h, a => by
    simp at a
    cases h with
    | cons h1 h2 => exact .cons (rp_atom h1 a.1) (rps_atom h2 (by simpa using a.2))
def seen (r : R) (s : DSt) : Option R := match r with
  | .raw v => some (.raw v)
  | .ob o => some (.ob o)
  | r => (look r s).map .val
def seens : List R → DSt → Option (List R)
  | [], _ => some []
  | r :: rs, s => match seen r s, seens rs s with
    | some a, some as => some (a :: as)
    | _, _ => none
def kUserP (F : List R → Pw → FRes) (rs : List R) (s : DSt) : Res R := match seens rs s with
  | some rs' => (match F rs' s.w with
    | .ok r w' => if atomR r = true then .ok r ⟨s.d, w'⟩ else .stuck
    | _ => .stuck)
  | none => .stuck
@[simp] theorem y_kUserP (F : List R → Pw → FRes) (rs : List R) (s : DSt) : kUserP F rs s = (match seens rs s with | some rs' => (match F rs' s.w with | .ok r w' => if atomR r = true then .ok r ⟨s.d, w'⟩ else .stuck | _ => .stuck) | none => .stuck) := Eq.trans rfl rfl
def fUserP (F : List R → Pw → FRes) (fs : M (List R)) : M R := bnd fs (kUserP F)
@[simp] theorem x_userP {F : List R → Pw → FRes} {fs : M (List R)} {s : DSt} : fUserP F fs s = (fs s).bind (kUserP F) := Eq.trans rfl rfl
@[simp] theorem x_seens_nil {s : DSt} : seens [] s = some [] := Eq.trans rfl rfl
@[simp] theorem x_seens_cons {r : R} {rs : List R} {s : DSt} : seens (r :: rs) s = (match seen r s, seens rs s with | some a, some as => some (a :: as) | _, _ => none) := Eq.trans rfl rfl
@[simp] theorem x_seen_raw {v : V} {s : DSt} : seen (.raw v) s = some (.raw v) := Eq.trans rfl rfl
@[simp] theorem x_seen_val {d : PyData} {s : DSt} : seen (.val d) s = some (.val d) := Eq.trans rfl rfl
@[simp] theorem x_seen_new {ds : List PyData} {s : DSt} : seen (.new ds) s = some (.val (.list ds)) := Eq.trans rfl rfl
@[simp] theorem x_seen_slot {i : Nat} {s : DSt} : seen (.slot i) s = (look (.slot i) s).map .val := Eq.trans rfl rfl
@[simp] theorem atomR_new {ds : List PyData} : atomR (.new ds) = ds.all atomD := rfl
@[simp] theorem atomR_val {d : PyData} : atomR (.val d) = atomD d := rfl
@[simp] theorem atomD_int {d : Int} : atomD (.int d) = true := rfl
@[simp] theorem atomD_bool {d : Bool} : atomD (.bool d) = true := rfl
@[simp] theorem atomD_str {d : Str} : atomD (.str d) = true := rfl
@[simp] theorem atomD_none : atomD .none = true := rfl
@[simp] theorem atomD_ints {ns : List Int} : (ns.map PyData.int).all atomD = true := by
  induction ns with
  | nil => rfl
  | cons a l ih => simp [ih]
section
variable {K : PySem.W.Frag} {G H G1 G' H' : Hp} {s : DSt} {σ : L2.St} {w' : Pw}
def allG (w : Pw) (H : Hp) : Hp := fun a => @ite _ (POwn w a) (Classical.propDecidable _) none (H a)
theorem allG_out {w : Pw} {a : Addr} (h : ¬ POwn w a) : allG w H a = H a := by unfold allG; rw [if_neg h]
theorem allG_in {w : Pw} {a : Addr} (h : POwn w a) : allG w H a = none := by unfold allG; rw [if_pos h]
theorem G_pown {w : Pw} (p : PwOk G w H) {a : Addr} (h : POwn w a) : G a = none := by
  unfold PwOk at p
  unfold POwn at h
  split at h
  · exact h.elim
  · rcases h with rfl | rfl
    · exact p.2.2.2.1
    · exact p.2.2.2.2
theorem allG_up (S : SA K G s σ H) : Ex G (allG s.w H) := fun a o e => by
  rw [allG_out fun z => by rw [G_pown S.pw z] at e; cases e]
  exact S.gh a o e
theorem allG_ex {w : Pw} : Ex (allG w H) H := fun a o e => by
  by_cases h : POwn w a
  · rw [allG_in h] at e; cases e
  · rwa [allG_out h] at e
theorem allG_pw (S : SA K G s σ H) : PwOk (allG s.w H) s.w H := by
  have q := S.pw
  have n : ∀ a, POwn s.w a → allG s.w H a = none := fun a h => allG_in h
  unfold PwOk at q ⊢
  split
  · trivial
  · rename_i pa ca cells t e
    rw [e] at q n
    exact ⟨q.1, q.2.1, q.2.2.1, by rw [e]; exact n pa (.inl rfl), by rw [e]; exact n ca (.inr rfl)⟩
theorem look_stp (S : SA K G s σ H) (f : FStp (allG s.w H) s.w H G' w' H') (pw : PwOk G' w' H') : Stp G s σ H G ⟨s.d, w'⟩ σ H' ∧ SA K G ⟨s.d, w'⟩ σ H' := by
  have own : ∀ i a, OwnAt s σ i a → H a ≠ none ∧ ¬ POwn s.w a := fun i a z => ⟨by obtain ⟨xs, e⟩ := S.ownH (.inl ⟨i, z⟩); rw [e]; simp, S.pne i a z⟩
  have up : Ex G G' := fun a o e => f.ex a o (allG_up S a o e)
  have gn : ∀ a, G' a = none → G a = none := fun a h => Classical.byContradiction fun z => by
    obtain ⟨o, e⟩ := Option.ne_none_iff_exists'.mp z
    rw [up a o e] at h
    cases h
  refine ⟨⟨Ex.refl G, fun a o h n => ⟨(f.keep a o h fun z => n (.inr z)).1, rfl⟩, fun a z => ?_, f.dom, f.pw⟩, ⟨S.len, fun a o e => f.gh a o (up a o e), fun i sl h => ?_, S.inj, fun i a z => S.ownG i a z, ?_, fun i a z q => ?_⟩⟩
  · rcases z with z | z
    · exact .inl (.inl z)
    · exact (f.own a z).imp .inr id
  · have q := S.slot i sl h
    cases sl with
    | no => trivial
    | val d => exact q
    | raw v => exact q
    | ob o => exact q
    | own es =>
      obtain ⟨a, xs, e, ha, hh⟩ := q
      have e' : σ[i]? = some (some (.ref a)) := by
        cases z : σ[i]? with
        | none => rw [z] at e; cases e
        | some o => rw [z] at e; simp at e; rw [e]
      exact ⟨a, xs, e, (f.keep a _ ha (own i a ⟨⟨es, h⟩, e'⟩).2).1, hh⟩
  · unfold PwOk at pw ⊢
    split
    · trivial
    · rename_i pa ca cells t e
      have e : w' = some (pa, ca, cells, t) := e
      rw [e] at pw
      exact ⟨pw.1, pw.2.1, pw.2.2.1, gn _ pw.2.2.2.1, gn _ pw.2.2.2.2⟩
  · rcases f.own a q with q | q
    · exact (own i a z).2 q
    · exact (own i a z).1 q
theorem seen_ar {H0 : Hp} {v : V} {r r' : R} (S : SA K G s σ H) (h : RRel K H0 G s σ H v r) (e : seen r s = some r') : AR K (allG s.w H) v r' := by
  cases r with
  | raw u => cases e; exact h
  | ob o => cases e; exact ob_mono (allG_up S) h
  | val d =>
    cases e
    exact dp_mono (allG_up S) _ _ h
  | new ds =>
    cases e
    obtain ⟨a, xs, rfl, ha, hd, _, _, hn⟩ := h
    exact Rp.lst (by rw [allG_out fun z => hn (.inr z)]; exact ha) (dps_mono (allG_up S) _ _ hd)
  | slot i =>
    have h' : σ[i]? = some (some v) := h
    simp only [x_seen_slot, look] at e
    split at e
    · rename_i ds q
      cases e
      obtain ⟨a, xs, e1, ha, hd⟩ := S.slot i _ q
      rw [h'] at e1
      cases e1
      exact Rp.lst (by rw [allG_out (S.pne i a ⟨⟨_, q⟩, h'⟩)]; exact ha) (dps_mono (allG_up S) _ _ hd)
    · rename_i d q
      cases e
      obtain ⟨u, e1, hd⟩ := S.slot i _ q
      rw [h'] at e1
      cases e1
      exact dp_mono (allG_up S) _ _ hd
    · cases e
theorem seens_ar {H0 : Hp} (S : SA K G s σ H) : ∀ {rs rs' : List R} {vs : List V}, RRels K H0 G s σ H vs rs → seens rs s = some rs' → Paired (AR K (allG s.w H)) vs rs'
  | [], _, _, .nil, e => by cases e; exact .nil
  | r :: rs, _, _, .cons h t, e => by
    simp only [x_seens_cons] at e
    split at e
    · rename_i a as e1 e2
      cases e
      exact .cons (seen_ar S h e1) (seens_ar S t e2)
    · cases e
end
section
variable {X : Cx} {cl : String → Addr} {W : WX} {e : Expr} {es : List Expr} {fs : M (List R)} {pos : Pos}
theorem userP_reads {K : PySem.W.Frag} {F : List R → Pw → FRes} {σ : L2.St} {H : Hp} {Q : VK} (q : tD K cl W (fUserP F fs) σ H Q) : tCallS (spF K cl F) (WE W) (tA K cl W fs) σ H Q := by
  obtain ⟨G, s, S, q⟩ := q
  refine ⟨G, s, S, out_mono (out_bind q) fun rs G1 s1 H1 st1 S1 k vs hv => ?_⟩
  unfold kUserP at k
  split at k
  · rename_i rs' e1
    refine ⟨allG s1.w H1, rs', s1.w, allG_ex, seens_ar S1 hv e1, allG_pw S1, ?_⟩
    cases z : F rs' s1.w with
    | ok r w' =>
      rw [z] at k
      dsimp only at k
      split at k
      · rename_i ha
        intro v G' H' f pw fr
        obtain ⟨st, S'⟩ := look_stp S1 f pw
        refine k G1 H' st S' v ?_
        cases r with
        | val d => exact rp_atom fr ha
        | raw u => simp [atomR] at ha
        | ob u => simp [atomR] at ha
        | slot i => exact fr.elim
        | new ds =>
          obtain ⟨a, xs, e, ha2, hd, hg, h0, hn⟩ := fr
          refine ⟨a, xs, e, ha2, rps_atom hd ha, ?_, Classical.byContradiction fun z => st1.dom a z h0, fun z => ?_⟩
          · refine Classical.byContradiction fun z => ?_
            obtain ⟨o, eo⟩ := Option.ne_none_iff_exists'.mp z
            rw [S1.gh a o eo] at h0
            cases h0
          · rcases z with ⟨i, z⟩ | z
            · obtain ⟨ys, e2⟩ := S1.ownH (.inl ⟨i, z⟩)
              rw [h0] at e2; cases e2
            · exact hn z
      · exact k.elim
    | err x w' => rw [z] at k; exact k.elim
    | stuck => rw [z] at k; exact k
  · exact k.elim
theorem d_calP {F : List R → Pw → FRes} {k : Nat} {ps : List Str} {x : Str} {p : Pos} (h : Cal X.prog X.w X.K X.mg X.base cl x k ps F) (hr : RoomG k X.A) (hx : ∀ σ, PassesAt (L2.CX X.prog X.w) X σ (WE W σ)) (ha : DA X cl W (e :: es) fs) (hg : Gl X x := by rfl) (hdb : (x == ("__debug__" : Str)) = false := by decide)
    (he : starEach (e :: es) X.env = (false, eval e X.env) :: starEach es X.env := by rfl) (hpl : (backTo pos (starEach es X.env)).any (·.1) = false := by rfl) : DE X cl W (.Call (.Name x p) (e :: es) [] pos) (fUserP F fs) := by
  obtain ⟨f, fd, ok, g, kp, b⟩ := h
  exact pe_imp (pe_callG ok hr hg g kp b hx ha hdb he hpl) fun σ H Q q => userP_reads q
end
end DL

/-! DL22: comprehensions that draw -/
noncomputable section
namespace DL
open PySem L2
end DL

/-! DL23: dicts that are known -/
noncomputable section
namespace DL
open PySem L2 PyProof.Rows
open Evl (Ex)
def keyD : PyData → Option Key
  | .int i => some (.inl i)
  | .str x => some (.inr x)
  | _ => none
def valD {κ : Type} [DecidableEq κ] (kvs : List (κ × PyData)) (k : κ) : Option PyData := (kvs.find? fun kv => decide (kv.1 = k)).map (·.2)
theorem valD_cons {κ : Type} [DecidableEq κ] {k j : κ} {d : PyData} {kvs : List (κ × PyData)} : valD ((k, d) :: kvs) j = if k = j then some d else valD kvs j := by
  unfold valD
  by_cases e : k = j <;> simp [List.find?_cons, e]
def fDictC (kvs : List (Str × Int)) : M R := ret (.ob (.dict (kvs.map fun p => (.inr p.1, .int p.2))))
def kDGet (g : M R) (x : R) (s : DSt) : Res R := match x with
  | .ob (.dict kvs) => (g s).bind fun y s2 => match look y s2 with
    | some d => match keyD d with
      | some k => match valD kvs k with
        | some e => .ok (.val e) s2
        | none => .stuck
      | none => .stuck
    | none => .stuck
  | _ => .stuck
def fDGet (f g : M R) : M R := bnd f (kDGet g)
def kDIn (neg : Bool) (y x : R) (s : DSt) : Res R := match look y s, x with
  | some d, .ob (.dict kvs) => match keyD d with
    | some k => .ok (.val (.bool (if neg then !(valD kvs k).isSome else (valD kvs k).isSome))) s
    | none => .stuck
  | _, _ => .stuck
def fDIn (neg : Bool) (f g : M R) : M R := bnd f fun y => bnd g fun x => kDIn neg y x
section
variable {X : Cx} {cl : String → Addr} {W : WX} {e a b : Expr} {f g : M R} {pos : Pos}
end
theorem ss_nev {X : Cx} {cl : String → Addr} {W : WX} {sts : List Stmt} : DSs X cl W sts fnever := ⟨fun _ _ _ _ _ _ ⟨_, _, _, h⟩ => h.elim⟩
/-! ### a < b < c -/
def kChain3 (o' : R → R → M R) (h : M R) (y : R) (z : R) (s : DSt) : Res R := match look z s with
  | some (.bool true) => (h s).bind fun w => o' y w
  | some (.bool false) => .ok (.val (.bool false)) s
  | _ => .stuck
def kChain2 (o o' : R → R → M R) (h : M R) (x : R) (y : R) (s : DSt) : Res R := (o x y s).bind (kChain3 o' h y)
def kChain1 (o o' : R → R → M R) (g h : M R) (x : R) (s : DSt) : Res R := (g s).bind (kChain2 o o' h x)
def fChain (o o' : R → R → M R) (f g h : M R) : M R := bnd f (kChain1 o o' g h)
section
variable {X : Cx} {cl : String → Addr} {W : WX} {e a b c : Expr} {f g h : M R} {pos : Pos}
end
section
variable {s : DSt} {f g : M R} {kvs : List (Key × PyData)} {x y : R} {d : PyData} {z : Str} {i : Int}
@[simp] theorem x_dictC {ws : List (Str × Int)} : fDictC ws s = .ok (.ob (.dict (ws.map fun p => (.inr p.1, .int p.2)))) s := Eq.trans rfl rfl
def kDGet2 (kvs : List (Key × PyData)) (y : R) (s2 : DSt) : Res R := match look y s2 with
    | some d => match keyD d with
      | some k => match valD kvs k with
        | some e => .ok (.val e) s2
        | none => .stuck
      | none => .stuck
    | none => .stuck
@[simp] theorem y_kDGet2 {s2 : DSt} : kDGet2 kvs y s2 = (match look y s2 with
    | some d => match keyD d with
      | some k => match valD kvs k with
        | some e => .ok (.val e) s2
        | none => .stuck
      | none => .stuck
    | none => .stuck) := Eq.trans rfl rfl
@[simp] theorem y_kDGet : kDGet g (.ob (.dict kvs)) s = (g s).bind (kDGet2 kvs) := Eq.trans rfl rfl
@[simp] theorem x_dget : fDGet f g s = (f s).bind (kDGet g) := Eq.trans rfl rfl
@[simp] theorem x_chain {o o' : R → R → M R} {h : M R} : fChain o o' f g h s = (f s).bind (kChain1 o o' g h) := Eq.trans rfl rfl
@[simp] theorem y_kChain1 {o o' : R → R → M R} {h : M R} : kChain1 o o' g h x s = (g s).bind (kChain2 o o' h x) := Eq.trans rfl rfl
@[simp] theorem y_kChain2 {o o' : R → R → M R} {h : M R} : kChain2 o o' h x y s = (o x y s).bind (kChain3 o' h y) := Eq.trans rfl rfl
def kChain4 (o' : R → R → M R) (y w : R) (s : DSt) : Res R := o' y w s
@[simp] theorem y_kChain4 {o' : R → R → M R} : kChain4 o' x y s = o' x y s := Eq.trans rfl rfl
@[simp] theorem y_kChain3 {o' : R → R → M R} {h : M R} {z : Bool} : kChain3 o' h y (.val (.bool z)) s = if z = true then (h s).bind (kChain4 o' y) else .ok (.val (.bool false)) s := by cases z <;> rfl
def kDIn1 (neg : Bool) (g : M R) (y : R) (s : DSt) : Res R := (g s).bind (kDIn neg y)
@[simp] theorem y_kDIn1 {neg : Bool} : kDIn1 neg g y s = (g s).bind (kDIn neg y) := Eq.trans rfl rfl
@[simp] theorem y_kDIn {neg : Bool} : kDIn neg y (.ob (.dict kvs)) s = (match look y s with
  | some d => match keyD d with
    | some k => .ok (.val (.bool (if neg then !(valD kvs k).isSome else (valD kvs k).isSome))) s
    | none => .stuck
  | none => .stuck) := by
  unfold kDIn
  cases look y s <;> rfl
@[simp] theorem x_dIn {neg : Bool} : fDIn neg f g s = (f s).bind (kDIn1 neg g) := Eq.trans rfl rfl
@[simp] theorem x_keyI : keyD (.int i) = some (.inl i) := Eq.trans rfl rfl
@[simp] theorem x_keyS : keyD (.str z) = some (.inr z) := Eq.trans rfl rfl
@[simp] theorem x_valD_nil {k : Key} : valD [] k = none := Eq.trans rfl rfl
@[simp] theorem x_valD_cons {k j : Key} : valD ((k, d) :: kvs) j = if k = j then some d else valD kvs j := valD_cons
end
end DL

/-! DL24: errors raised, caught and kept -/
noncomputable section
namespace DL
open PySem L2 PyProof.Rows PySem.Spec
open Evl (Ex)
/-! ### raise -/
def fRaise (n : String) : DSt → Flow := fun s => .err ⟨n, none⟩ s
section
variable {X : Cx} {cl : String → Addr} {W : WX} {pos : Pos}
theorem s_raise {x m : Str} {n : String} {C : Addr} {j : Nat} {p p2 pos' : Pos} (hc : X.calm = true) (tk : Takes X W) (hC : cl n = C) (q : PySem.W.excIn X.K C [.type "ValueError", .type "Exception", .type "BaseException", .type "object"] "ValueError.__new__" = true) (gC : X.mg x = some (.ref C)) (kC : PySem.W.keepIn X.K (.ref C) = true)
    (h1 : PySem.W.subIn X.K (.ref C) (.type "BaseException") = some true) (h2 : PySem.W.typeIn X.K (.ref C) = some (.type "type")) (hg : Gl X x) (hdb : (x == ("__debug__" : Str)) = false := by decide) :
    DS X cl W (.Raise (some (.Call (.Name x p) [.Constant (.str m) j p2] [] pos')) none pos) (fRaise n) :=
  ps_imp (ps_raise hc tk (pmk_own PySem.F.excBase_ValueError q gC kC (raises_own h1 h2) hg hdb)) fun D σ H ⟨G, s, S, h⟩ => h _ _ G σ H Stp.refl S ⟨by rw [hC], rfl⟩
end
/-! ### what is caught is kept: it is a thing of the heap from then on -/
section
variable {X : Cx} {pins : List (Addr × Obj)} {σ : L2.St} {H : Hp} {s sI : Shared} {a : Addr} {cls : Value} {d : Option Addr}
theorem exc_ok {P : Program} {w : World} {h : Heap} {oe : Obj} (e : h.get? a = some oe) (z : Zc cls d oe) (hv : ∃ vs, oe.data = .fields vs) : ObjOk P w H h a (excO a cls d) :=
  ⟨⟨oe, e, z, hv⟩, ⟨oe, e⟩, fun h1 h2 ⟨o, e1, z1, v1⟩ k => ⟨o, k o e1, z1, v1⟩⟩
theorem inv_more {φ : Heap → Prop} (I : Inv X pins σ H s) (n0 : X.s_0.heap.get? a = none) (hn : H a = none) (new : ∀ H', ObjOk X.prog X.w H' s.heap a (.ext φ)) (hp : ∀ p ∈ X.pn ++ pins, p.1 ≠ a) (nL : a ≠ X.env.locals)
    (nC : ∀ x c, X.env.cells.lookup x = some c → c ≠ a) : Inv X pins σ (upd H a (.ext φ)) s := by
  have ne0 : ∀ b o, X.s_0.heap.get? b = some o → b ≠ a := fun b o e z => by rw [z, n0] at e; cases e
  have neH : ∀ b o, H b = some o → b ≠ a := fun b o e z => by rw [z, hn] at e; cases e
  refine ⟨I.ok, I.os, I.bare, ⟨I.base.keep, I.base.slot, fun b o e z x => ?_, I.base.there, fun b xs e => ?_, fun b o u e => ?_, fun b ps e => ?_⟩, I.loc, I.cell, ?_, fun x c e => ?_, fun p hm => ?_, I.hok.laidN (fun _ _ q => q) hn (new _), I.len⟩
  · rw [upd_ne (ne0 b o e)]; exact I.base.free b o e z x
  · have := I.base.tups b xs e
    rw [upd_ne (neH _ _ this)]; exact this
  · have := I.base.frzs b o u e
    rw [upd_ne (neH _ _ this)]; exact this
  · obtain ⟨more, q⟩ := I.base.tbls b ps e
    exact ⟨more, by rw [upd_ne (neH _ _ q)]; exact q⟩
  · rw [upd_ne nL.symm]; exact I.free
  · rw [upd_ne (nC x c e)]; exact I.freeC x c e
  · obtain ⟨h1, h2, h3⟩ := I.pin p hm
    exact ⟨h1, by rw [upd_ne (hp p hm)]; exact h2, h3⟩
end
def wKeep (K : PySem.W.Frag) (c : Value) (i j : Nat) (Wout : WX) (D : Ends) : WX := fun cls d σ H =>
  ∃ b, PySem.W.exmOne K cls c = some b ∧ (b = true → ∀ a, H a = none → i < σ.length ∧ D.nx (((σ.set i (some (.ref a))).set j (some (.ref a))).set i none) (upd H a (excO a cls d))) ∧ (b = false → Wout cls d σ H)
section
variable {X : Cx} {x n : Str} {c : Value} {i j : Nat} {body suite : List Stmt} {b₀ : Stmt} {np pos pos' : Pos} {tb : WX → TS} {Wout : WX}
theorem try_keep (hs : X.stack = X.env :: X.outer) (hf : X.env.frame = some X.env.locals) (hx : X.ex = []) (hN : X.N.Nodup) (hi : X.N[i]? = some n) (hln : X.env.kindOf n = some .local) (hc : Names X x c) (tk : Takes X Wout)
    (hb : ∀ (W : WX) (pn : List (Addr × Obj)) (xe : Value → Shared → Prop), Takes (X.tr pn xe) W → PassesOwn (model X.prog X.w) X.A X.env xe → PSs (X.tr pn xe) body (tb W))
    (hsu : ∀ (a : Addr) (oe : Obj) (pn : List (Addr × Obj)), PSs (X.suite a ((a, oe) :: pn)) (b₀ :: suite) (tAsg (tVar i) (gName j))) :
    PS X (.Try body [.ExceptHandler (some (.Name x np)) (some n) (b₀ :: suite) pos'] [] [] pos) (fun D σ H => tb (wKeep X.K c i j Wout D) D σ H) := by
  refine ⟨fun pins s σ H D I h => ?_⟩
  have ok := I.ok
  have hfr : X.A.frames = some (X.env :: X.outer) := by rw [ok.frames, hs]
  have hloc : Loc X.env.scope n := .inl hln
  refine wpAny_Try_except ?_
  refine wpAny_mono ((hb (wKeep X.K c i j Wout D) (X.pn ++ pins) (fun e s₁ => wpAny (model X.prog X.w) X.A (noteFrame e X.env) (fun _ s₂ => wpAny (model X.prog X.w) X.A (setFlight e none) (fun _ s₃ =>
    wpAny (model X.prog X.w) X.A (handleBy e X.env [.ExceptHandler (some (.Name x np)) (some n) (b₀ :: suite) pos']) (SP X pins D) X.xe s₃) X.xe s₂) X.xe s₁) (fun u s' xx => ?_) PassesOwn.looking).run [] s σ H D (I.toTry _) h) (fun f s1 hsp => ?_) (fun e s1 he => he)
  · obtain ⟨a, B, sI, pins', σ', H', cls, d, rfl, J', nb, up, sky, na, os, ag, b, hb1, hyes, hno⟩ := xx
    have J : Inv X pins σ' H' sI := J'.ofTry ok
    have sky' : Sky B (X.env :: X.outer) a (Zc cls d) X.env.locals s'.heap := by rw [← hs]; exact sky
    show wpAny _ X.A (noteFrame (.ref a) X.env) _ _ _
    refine Sky.land Zc.steady hfr hf sky' fun h3 fl3 up3 => ?_
    have J3 : Inv X pins σ' H' { s' with heap := h3 } := J.landed nb fl3.1 (up.trans up3) os ag
    obtain ⟨oe3, vs3, he3, hz3, hd3⟩ := fl3.there
    have nfr : a ∉ frs (X.env :: X.outer) := fun hm => by
      obtain ⟨_, o', e', hnf⟩ := fl3.2.2.1.mem hm
      rw [he3] at e'; cases e'
      exact hnf _ hd3
    have nL : a ≠ X.env.locals := fun z => nfr (List.mem_filterMap.mpr ⟨X.env, List.mem_cons_self, by rw [hf, z]⟩)
    have nF : a ∉ X.fs := fun hm => by
      obtain ⟨e, he, q⟩ := List.mem_filterMap.mp hm
      exact nfr (List.mem_filterMap.mpr ⟨e, List.mem_cons_of_mem _ he, q⟩)
    -- the exception is no thing of the state without it
    have nI : sI.heap.get? a = none := by
      cases e : sI.heap.get? a with
      | none => rfl
      | some o =>
        have z := nb a o e (by rw [hs]; exact nfr)
        rw [fl3.2.1] at z; cases z
    have n0 : X.s_0.heap.get? a = none := by
      cases e : X.s_0.heap.get? a with
      | none => rfl
      | some o =>
        obtain ⟨o', z⟩ := J.base.there a o e (by rw [hx]; exact fun z => nomatch z)
        rw [nI] at z; cases z
    have npin : ∀ p ∈ X.pn ++ pins, p.1 ≠ a := fun p hp z => by
      have := (J.pin p hp).1
      rw [z, nI] at this; cases this
    have ncell : ∀ y k, X.env.cells.lookup y = some k → k ≠ a := fun y k e z => by
      obtain ⟨v, q⟩ := J.cell y k e
      obtain ⟨o, q, _⟩ := q
      rw [z, nI] at q; cases q
    have S3 := J3.suite he3 hd3 na nL nF
    refine wpAny_handleBy_cons (codeAny_handlers_test ?_) (by intro q; cases q)
    have LT : PySem.W.Looks (model X.prog X.w) h3 (typeOf (.ref a)) cls := fun A Q E s k q => wpAny_typeOf_ref (k _ _ he3) (by rw [hz3.1]; exact q)
    have LM := PySem.W.exm_one (M := model X.prog X.w) (J3.kIn) LT hb1
    have test : ∀ {Q : Value → Shared → Prop} {E : Value → Shared → Prop}, Q c { s' with heap := h3 } → wpAny (model X.prog X.w) (X.A.mark (some (.ref a))) (eval (.Name x np) X.env) Q E { s' with heap := h3 } := fun {Q E} q => by
      obtain ⟨hg, hdbg, hm | ⟨hm, hv, hnn⟩⟩ := hc
      · exact ld_glob (X := X.suite a ((a, oe3) :: (X.pn ++ pins))) S3 hg hm q hdbg
      · exact ld_blt (X := X.suite a ((a, oe3) :: (X.pn ++ pins))) S3 hg hm hv q hnn hdbg
    refine test (LM.here ?_)
    cases b with
    | true =>
      refine codeAny_handlers_suite_as ?_
      refine HandSPX.lands_againZ fl3 fun h4 fl4 up4 => ?_
      have J4 : Inv X pins σ' H' { s' with heap := h4 } := J.landed nb fl4.1 ((up.trans up3).trans up4) os ag
      obtain ⟨oe4, vs4, he4, hz4, hd4⟩ := fl4.there
      have S4 := J4.suite he4 hd4 na nL nF
      obtain ⟨il, hnx⟩ := hyes rfl a na
      refine store_ok (X := X.suite a ((a, oe4) :: (X.pn ++ pins))) (v := .ref a) S4 hN hi hloc rfl (fun s5 S5 => ?_) (.inr hln)
      refine wpAny_mono ((hsu a oe4 (X.pn ++ pins)).run [] s5 _ H' { nx := fun σ6 H6 => σ6 = (σ'.set i (some (.ref a))).set j (some (.ref a)) ∧ H6 = H', rt := fun _ _ => False, bk := fun _ _ => False, ct := fun _ _ => False } S5
        ⟨.ref a, List.getElem?_set_self il, rfl, rfl⟩) (fun f s6 hsp => ?_) (fun _ _ z => False.elim z)
      cases f with
      | next =>
        obtain ⟨σ6, H6, S6, rfl, rfl⟩ := hsp
        have P6 := (S6.pin (a, oe4) (List.mem_append_left _ List.mem_cons_self)).1
        have M6 : Inv X pins _ (upd H6 a (excO a cls d)) s6 := inv_more (S6.unsuite ok) n0 na (fun _ => exc_ok P6 hz4 ⟨_, hd4⟩) npin nL ncell
        exact gone_ok M6 hN hi hln fun s7 J7 => ⟨_, _, J7, hnx⟩
      | brk => obtain ⟨_, _, _, z⟩ := hsp; exact z.elim
      | cont => obtain ⟨_, _, _, z⟩ := hsp; exact z.elim
      | ret u => obtain ⟨_, _, _, _, _, z⟩ := hsp; exact z.elim
    | false =>
      show wpAny _ X.A (handleBy (.ref a) X.env []) _ _ _
      refine wpAny_handleBy_nil ?_
      obtain ⟨k1, k2, k3, oe, vs, T, oT, ts', he, hz, hd, h1, hr⟩ := id fl3
      unfold PySem.passOn
      refine wpAny_bind (wpAny_field he hd h1 ?_)
      rw [if_neg (show ¬ ((Value.ref T == Value.none) = true) from by simp)]
      have fin : wpAny (model X.prog X.w) X.A (setFlight (.ref a) X.env.frame) (fun _ s4 => wpAny (model X.prog X.w) X.A (throw (.ref a) : Sem PySem.Flow) (SP X pins D) X.xe s4) X.xe { s' with heap := h3 } := by
        rw [hf]
        refine HandSPX.setFlight_upZ fl3 fun h4 hh4 up4 => wpAny_throw (tk _ _ ?_)
        exact ⟨a, B, sI, pins, σ', H', cls, d, rfl, J, nb, (up.trans up3).trans up4, .inr (.inr (by rw [hs]; exact hh4)), na, os, ag, hno rfl⟩
      first
        | exact wpAny_bind (wpAny_pure (wpAny_bind fin))
        | exact wpAny_bind fin
  · cases f with
    | next =>
      obtain ⟨σ', H', J', q⟩ := hsp
      exact wpAny_execs_nil ⟨σ', H', J'.ofTry ok, q⟩
    | brk =>
      obtain ⟨σ', H', J', q⟩ := hsp
      exact ⟨σ', H', J'.ofTry ok, q⟩
    | cont =>
      obtain ⟨σ', H', J', q⟩ := hsp
      exact ⟨σ', H', J'.ofTry ok, q⟩
    | ret u =>
      obtain ⟨v, σ', H', J', r, q⟩ := hsp
      exact ⟨v, σ', H', J'.ofTry ok, r, q⟩
end
/-! ### try: .. except FolkError as e: caught = e -/
def isCaught (ns : List String) (x : Exn) : Bool := ns.contains x.name && (match x.arg with | none => true | some _ => false)
def fTry (ns : List String) (i j : Nat) (p : DSt → Flow) : DSt → Flow := fun s => match p s with
  | .err x s' => if isCaught ns x = true ∧ i < s'.d.length ∧ j < s'.d.length ∧ i ≠ j then .next (putS i .no (putS j (.ob (.exc x)) s')) else .stuck
  | fl => fl
section
variable {K : PySem.W.Frag} {G H G0 H0 : Hp} {s s0 : DSt} {σ σ0 : L2.St}
theorem own_no {i j : Nat} {v : Option V} {a : Addr} (hi : i < s.d.length) : OwnAt (putS i .no s) (σ.set i v) j a → j ≠ i ∧ OwnAt s σ j a := by
  rintro ⟨⟨ds, e⟩, h⟩
  by_cases q : j = i
  · subst q
    unfold putS at e
    simp only [List.getElem?_set_self hi] at e
    cases e
  · unfold putS at e
    simp only [List.getElem?_set_ne (Ne.symm q)] at e
    rw [List.getElem?_set_ne (Ne.symm q)] at h
    exact ⟨q, ⟨ds, e⟩, h⟩
theorem no_ok {i : Nat} {v : Option V} (S : SA K G s σ H) (hi : i < s.d.length) : SA K G (putS i .no s) (σ.set i v) H := by
  refine ⟨by simp [putS, S.len], S.gh, fun j sl h => ?_, fun j k a h1 h2 => S.inj j k a (own_no hi h1).2 (own_no hi h2).2, fun j a h => S.ownG j a (own_no hi h).2, S.pw, fun j a h => S.pne j a (own_no hi h).2⟩
  by_cases q : j = i
  · subst q
    simp only [putS, List.getElem?_set_self hi] at h
    cases h
    trivial
  · simp only [putS, List.getElem?_set_ne (Ne.symm q)] at h
    rw [List.getElem?_set_ne (Ne.symm q)]
    exact S.slot j sl h
theorem no_stp {i : Nat} {v : Option V} (st : Stp G0 s0 σ0 H0 G s σ H) (hi : i < s.d.length) : Stp G0 s0 σ0 H0 G (putS i .no s) (σ.set i v) H := by
  refine ⟨st.ex, st.keep, fun a z => ?_, st.dom, st.pw⟩
  rcases z with ⟨j, z⟩ | z
  · exact st.own a (.inl ⟨j, (own_no hi z).2⟩)
  · exact st.own a (.inr z)
end
theorem set_thrice {σ : L2.St} {i j : Nat} {u v : Option V} (h : i ≠ j) : ((σ.set i u).set j v).set i none = (σ.set j v).set i none := by
  apply List.ext_getElem?
  intro k
  by_cases q : k = i
  · subst q
    simp [List.getElem?_set]
  · simp [List.getElem?_set_ne (Ne.symm q)]
    by_cases q2 : k = j
    · subst q2; simp [List.getElem?_set]
    · simp [List.getElem?_set_ne (Ne.symm q2), List.getElem?_set_ne (Ne.symm q)]
section
variable {X : Cx} {cl : String → Addr} {W : WX} {x n : Str} {C : Addr} {i j : Nat} {body suite : List Stmt} {b₀ : Stmt} {np pos pos' : Pos} {p : DSt → Flow}
end
/-! ### isinstance of what was caught -/
def rIsX (K : PySem.W.Frag) : List V → Hp → VK → Prop := fun xs H Q => ∃ (a D : Addr) (c : V) (cv : Value) (b : Bool), xs = [.ref a, c] ∧ H a = some (excO a (.ref D) none) ∧ ExcC K D ∧ ClsV c cv ∧ PySem.W.kitOne K (.ref D) cv = some b ∧ Q (.bl b) H
structure ExF (K : PySem.W.Frag) (mg : Str → Option Value) (n : String) : Prop where
  g : mg (Str.ofString n) = some (.ref (clOf K n))
  x : PySem.W.excIn K (clOf K n) [.type "ValueError", .type "Exception", .type "BaseException", .type "object"] "ValueError.__new__" = true
  kp : PySem.W.keepIn K (.ref (clOf K n)) = true
  b : PySem.W.subIn K (.ref (clOf K n)) (.type "BaseException") = some true
  ty : PySem.W.typeIn K (.ref (clOf K n)) = some (.type "type")
  c : ExcC K (clOf K n)
  v : PySem.W.subIn K (.ref (clOf K n)) (.type "ValueError") = some true
structure ExFs (K : PySem.W.Frag) (mg : Str → Option Value) (ns : List String) : Prop where
  each : ∀ n ∈ ns, ExF K mg n
  top : ∀ n ∈ ns, PySem.W.exmOne K (.ref (clOf K n)) (.ref (clOf K "FolkError")) = some true
  two : ∀ n ∈ ns, ∀ m ∈ ns, PySem.W.kitOne K (.ref (clOf K n)) (.ref (clOf K m)) = some (n == m)
  gF : mg "FolkError" = some (.ref (clOf K "FolkError"))
def fIsX (ns : List String) (m : String) (f : M R) : M R := bnd f fun r s => match r with
  | .ob (.exc ⟨n, none⟩) => if n ∈ ns ∧ m ∈ ns then .ok (.val (.bool (n == m))) s else .stuck
  | _ => .stuck
def fIsV (ns : List String) (f : M R) : M R := bnd f fun r s => match r with
  | .ob (.exc ⟨n, none⟩) => if n ∈ ns then .ok (.val (.bool true)) s else .stuck
  | _ => .stuck
section
variable {X : Cx} {cl : String → Addr} {W : WX} {e : Expr} {f : M R} {pos : Pos}
theorem kit_V {K : PySem.W.Frag} {D : Addr} (h : PySem.W.subIn K (.ref D) (.type "ValueError") = some true) : PySem.W.kitOne K (.ref D) (.type "ValueError") = some true := by
  unfold PySem.W.kitOne
  rw [if_neg (by intro z; have := beq_iff_eq.mp z; cases this)]
  show (if PySem.W.kitMeta "ValueError" = true then PySem.W.subIn K (.ref D) (.type "ValueError") else none) = _
  rw [if_pos (by decide +kernel)]
  exact h
end
section
variable {s : DSt} {f : M R} {p : DSt → Flow}
@[simp] theorem x_raise {n : String} : fRaise n s = .err ⟨n, none⟩ s := Eq.trans rfl rfl
def kTry (ns : List String) (i j : Nat) (fl : Flow) : Flow := match fl with
  | .err x s' => if isCaught ns x = true ∧ i < s'.d.length ∧ j < s'.d.length ∧ i ≠ j then .next (putS i .no (putS j (.ob (.exc x)) s')) else .stuck
  | fl => fl
@[simp] theorem x_try {ns : List String} {i j : Nat} : fTry ns i j p s = kTry ns i j (p s) := by
  unfold fTry kTry
  cases p s <;> rfl
@[simp] theorem y_kTry_next {ns : List String} {i j : Nat} : kTry ns i j (.next s) = .next s := Eq.trans rfl rfl
@[simp] theorem y_kTry_ret {ns : List String} {i j : Nat} {r : R} : kTry ns i j (.ret r s) = .ret r s := Eq.trans rfl rfl
@[simp] theorem y_kTry_err {ns : List String} {i j : Nat} {n : String} : kTry ns i j (.err ⟨n, none⟩ s) = if n ∈ ns ∧ i < s.d.length ∧ j < s.d.length ∧ i ≠ j then .next (putS i .no (putS j (.ob (.exc ⟨n, none⟩)) s)) else .stuck := by
  show (if isCaught ns ⟨n, none⟩ = true ∧ _ then _ else _) = _
  have : isCaught ns ⟨n, none⟩ = true ↔ n ∈ ns := by simp [isCaught]
  simp only [this]
def kIsX (ns : List String) (m : String) (r : R) (s : DSt) : Res R := match r with
  | .ob (.exc ⟨n, none⟩) => if n ∈ ns ∧ m ∈ ns then .ok (.val (.bool (n == m))) s else .stuck
  | _ => .stuck
@[simp] theorem y_kIsX {ns : List String} {n m : String} : kIsX ns m (.ob (.exc ⟨n, none⟩)) s = if n ∈ ns ∧ m ∈ ns then .ok (.val (.bool (n == m))) s else .stuck := Eq.trans rfl rfl
@[simp] theorem x_isX {ns : List String} {m : String} : fIsX ns m f s = (f s).bind (kIsX ns m) := Eq.trans rfl rfl
def kIsV (ns : List String) (r : R) (s : DSt) : Res R := match r with
  | .ob (.exc ⟨n, none⟩) => if n ∈ ns then .ok (.val (.bool true)) s else .stuck
  | _ => .stuck
@[simp] theorem y_kIsV {ns : List String} {n : String} : kIsV ns (.ob (.exc ⟨n, none⟩)) s = if n ∈ ns then .ok (.val (.bool true)) s else .stuck := Eq.trans rfl rfl
@[simp] theorem x_isV {ns : List String} : fIsV ns f s = (f s).bind (kIsV ns) := Eq.trans rfl rfl
end
/-! ### the facts of the classes, from the written part -/
section
variable {K : PySem.W.Frag} {h : Heap} {mg : Str → Option Value} {n m : String} {C D : Addr}
theorem top_mk (a : PySem.W.nsIn K mainGlobals (Str.ofString n) = some (some (.ref C))) (aF : PySem.W.nsIn K mainGlobals "FolkError" = some (some (.ref D))) (b : PySem.W.subIn K (.ref D) (.type "BaseException") = some true) (hd : PySem.W.hasDictIn K D = true)
    (ty : PySem.W.typeIn K (.ref D) = some (.type "type")) (s : PySem.W.subIn K (.ref C) (.ref D) = some true) : PySem.W.exmOne K (.ref (clOf K n)) (.ref (clOf K "FolkError")) = some true := by
  have eF : clOf K "FolkError" = D := clOf_of aF
  rw [clOf_of a, eF]
  exact PySem.W.exm_ref b hd ty s
theorem two_eq : PySem.W.kitOne K (.ref (clOf K n)) (.ref (clOf K n)) = some (n == n) := by
  unfold PySem.W.kitOne
  rw [if_pos (by simp)]
  simp
theorem two_mk (a : PySem.W.nsIn K mainGlobals (Str.ofString n) = some (some (.ref C))) (a2 : PySem.W.nsIn K mainGlobals (Str.ofString m) = some (some (.ref D))) (s : PySem.W.subIn K (.ref C) (.ref D) = some false) (s2 : PySem.W.subIn K (.ref C) (.ref C) = some true)
    (hd : PySem.W.hasDictIn K D = true) (ty : PySem.W.typeIn K (.ref D) = some (.type "type")) (hne : n ≠ m) : PySem.W.kitOne K (.ref (clOf K n)) (.ref (clOf K m)) = some (n == m) := by
  rw [clOf_of a, clOf_of a2]
  have ne : C ≠ D := fun z => by subst z; rw [s] at s2; cases s2
  unfold PySem.W.kitOne
  rw [if_neg (by intro z; exact ne (Value.ref.inj (beq_iff_eq.mp z)))]
  obtain ⟨cd, hc, _⟩ := PySem.W.any_some hd
  show (if ((PySem.W.clsIn K D).isSome && PySem.W.typeIn K (.ref D) == some (.type "type")) = true then PySem.W.subIn K (.ref C) (.ref D) else none) = _
  rw [if_pos (by rw [hc, ty] <;> rfl), s, beq_eq_false_iff_ne.mpr hne]
theorem mgF_mk (X : PySem.W.Frag.In K h) (G : h.Ns mainGlobals mg) (a : PySem.W.nsIn K mainGlobals "FolkError" = some (some (.ref C))) : mg "FolkError" = some (.ref (clOf K "FolkError")) := by
  have g := PySem.W.mg_of X G a
  have e : clOf K "FolkError" = C := clOf_of a
  subst e
  exact g
end
end DL

/-! DL25: the script, bits, a law without a purse -/
noncomputable section
namespace DL
open PySem L2 PyProof.Rows
open Evl (Ex)
def kScLen (x : R) (s : DSt) : Res R := match x with
  | .ob (.scr ns) => .ok (.val (.int ns.length)) s
  | _ => .stuck
def fScLen (f : M R) : M R := bnd f kScLen
def kScIx (g : M R) (x : R) (s : DSt) : Res R := match x with
  | .ob (.scr ns) => (g s).bind fun y s2 => match look y s2 with
    | some (.int n) => match atI ns n with
      | some z => .ok (.val (.int z)) s2
      | none => .stuck
    | _ => .stuck
  | _ => .stuck
def fScIx (f g : M R) : M R := bnd f (kScIx g)
def andO : PyData → PyData → Option R
  | .int i, .int j => some (.val (.int (Builtin.bitAnd i j)))
  | _, _ => none
theorem opd_and {K : PySem.W.Frag} : OpD K (rI0 fun i j => .int (Builtin.bitAnd i j)) andO := by
  intro G H x y d e r Q ex hx hy ho k
  unfold andO at ho
  split at ho
  · cases ho
    obtain rfl := dq_int hx
    obtain rfl := dq_int hy
    exact ⟨_, _, rfl, rfl, k.1 _ (.int _)⟩
  · cases ho
section
variable {X : Cx} {cl : String → Addr} {W : WX} {a b x e : Expr} {f g : M R} {pos : Pos}
theorem d_and (ha : DE X cl W a f) (hb : DE X cl W b g) : DE X cl W (.BinOp a .BitAnd b pos) (fOp (lift2 andO) f g) := d_op2 (pe_op op_and) (ops_lift opd_and) ha hb
theorem d_scLen {p : Pos} (hg : Gl X "len") (hm : X.mg "len" = none) (hx : DE X cl W x f)
    (he : starEach (x :: []) X.env = (false, eval x X.env) :: starEach [] X.env := by rfl) (hpl : (backTo pos (starEach [] X.env)).any (·.1) = false := by rfl) : DE X cl W (.Call (.Name "len" p) [x] [] pos) (fScLen f) := by
  refine pe_imp (pe_callB call_len_seq hg hm (by decide +kernel) (pa_cons hx pa_nil he) (by decide) (by decide) he hpl) fun σ H Q ⟨G, s, S, h⟩ => ?_
  refine ⟨G, s, S, out_mono (out_bind h) fun r G1 s1 H1 st1 S1 k v rr => ?_⟩
  unfold kScLen at k
  split at k
  · rename_i ns
    obtain ⟨p, rfl, hl⟩ := rr
    refine ⟨p, _, rfl, .inl (Evl.ex_l S1.gh hl), ?_⟩
    have := k G1 H1 Stp.refl S1 _ (.int _)
    rw [List.length_map]
    exact this
  · exact k.elim
theorem d_scIx (ha : DE X cl W a f) (hb : DE X cl W b g) (hs : PlainIx b) : DE X cl W (.Subscript a b pos) (fScIx f g) := by
  refine pe_imp (pe_ix ix_seq ha hb hs) fun σ H Q ⟨G, s, S, q⟩ => ?_
  refine ⟨G, s, S, out_mono (out_bind q) fun r G1 s1 H1 st1 S1 k v rr => ?_⟩
  unfold kScIx at k
  split at k
  · rename_i ns
    obtain ⟨p, rfl, hl⟩ := rr
    refine ⟨G1, s1, S1, out_mono (out_bind k) fun r2 G2 s2 H2 st2 S2 k2 u ru => ?_⟩
    split at k2
    · rename_i n en
      split at k2
      · rename_i z ez
        obtain rfl := dq_int (look_q S2 ru en)
        exact .inl ⟨p, _, n, _, rfl, rfl, Evl.ex_l (st2.ex.trans S2.gh) hl, atI_map ez, k2 G2 H2 Stp.refl S2 _ (.int z)⟩
      · exact k2.elim
    · exact k2.elim
  · exact k.elim
@[simp] theorem x_scLen {s : DSt} : fScLen f s = (f s).bind kScLen := Eq.trans rfl rfl
@[simp] theorem x_kScLen {ns : List Int} {s : DSt} : kScLen (.ob (.scr ns)) s = .ok (.val (.int ns.length)) s := Eq.trans rfl rfl
@[simp] theorem x_scIx {s : DSt} : fScIx f g s = (f s).bind (kScIx g) := Eq.trans rfl rfl
def kScIx2 (ns : List Int) (y : R) (s2 : DSt) : Res R := match look y s2 with
    | some (.int n) => match atI ns n with
      | some z => .ok (.val (.int z)) s2
      | none => .stuck
    | _ => .stuck
@[simp] theorem x_kScIx {ns : List Int} {s : DSt} : kScIx g (.ob (.scr ns)) s = (g s).bind (kScIx2 ns) := Eq.trans rfl rfl
@[simp] theorem x_kScIx2 {ns : List Int} {i : Int} {s : DSt} : kScIx2 ns (.val (.int i)) s = (match atI ns i with | some z => .ok (.val (.int z)) s | none => .stuck) := Eq.trans rfl rfl
@[simp] theorem x_bitAnd {i j : Int} : andO (.int i) (.int j) = some (.val (.int (Builtin.bitAnd i j))) := Eq.trans rfl rfl
end
/-! ### classes that nothing of the law raises -/
structure ExY (K : PySem.W.Frag) (mg : Str → Option Value) (ns : List String) (m : String) : Prop where
  g : mg (Str.ofString m) = some (.ref (clOf K m))
  two : ∀ n ∈ ns, PySem.W.kitOne K (.ref (clOf K n)) (.ref (clOf K m)) = some false
def kIsY (ns : List String) (m : String) (r : R) (s : DSt) : Res R := match r with
  | .ob (.exc ⟨n, none⟩) => if n ∈ ns then .ok (.val (.bool false)) s else .stuck
  | _ => .stuck
def fIsY (ns : List String) (m : String) (f : M R) : M R := bnd f (kIsY ns m)
@[simp] theorem x_isY {ns : List String} {m : String} {f : M R} {s : DSt} : fIsY ns m f s = (f s).bind (kIsY ns m) := Eq.trans rfl rfl
@[simp] theorem y_kIsY {ns : List String} {n m : String} {s : DSt} : kIsY ns m (.ob (.exc ⟨n, none⟩)) s = if n ∈ ns then .ok (.val (.bool false)) s else .stuck := Eq.trans rfl rfl
theorem two2_mk {K : PySem.W.Frag} {n m : String} {C D : Addr} (a : PySem.W.nsIn K mainGlobals (Str.ofString n) = some (some (.ref C))) (a2 : PySem.W.nsIn K mainGlobals (Str.ofString m) = some (some (.ref D))) (s : PySem.W.subIn K (.ref C) (.ref D) = some false) (s2 : PySem.W.subIn K (.ref C) (.ref C) = some true)
    (hd : PySem.W.hasDictIn K D = true) (ty : PySem.W.typeIn K (.ref D) = some (.type "type")) : PySem.W.kitOne K (.ref (clOf K n)) (.ref (clOf K m)) = some false := by
  rw [clOf_of a, clOf_of a2]
  have ne : C ≠ D := fun z => by subst z; rw [s] at s2; cases s2
  unfold PySem.W.kitOne
  rw [if_neg (by intro z; exact ne (Value.ref.inj (beq_iff_eq.mp z)))]
  obtain ⟨cd, hc, _⟩ := PySem.W.any_some hd
  show (if ((PySem.W.clsIn K D).isSome && PySem.W.typeIn K (.ref D) == some (.type "type")) = true then PySem.W.subIn K (.ref C) (.ref D) else none) = _
  rw [if_pos (by rw [hc, ty] <;> rfl), s]
theorem gY_mk {K : PySem.W.Frag} {h : Heap} {mg : Str → Option Value} {m : String} {C : Addr} (X : PySem.W.Frag.In K h) (G : h.Ns mainGlobals mg) (a : PySem.W.nsIn K mainGlobals (Str.ofString m) = some (some (.ref C))) : mg (Str.ofString m) = some (.ref (clOf K m)) := by
  have g := PySem.W.mg_of X G a
  rw [clOf_of a]
  exact g
def LawOkS (n : Nat) (p : DSt → Flow) : Prop := ∀ ns : List Int, ns.length ≤ 63 → ∃ s', p ⟨Sl.ob (.scr ns) :: List.replicate (n - 1) Sl.no, none⟩ = .ret (.val (.bool true)) s'
section
variable {P : Program} {w : World} {K : PySem.W.Frag} {mg : Str → Option Value} {base : Heap} {cl : String → Addr}
theorem law_ok2 {st : Stmt} {x : Str} {N : List Str} {k : Nat} {p : DSt → Flow} {arg : Str} {f : Addr} {fd : FuncData} (F : Fun K x x st f fd) (S : FnScope N [arg] (defScope st))
    (hb : ∀ (f : Addr) (cdv : Value) (A : Around) (outer : List Env) (s : Shared) (H : Hp) (E : XK), RoomG k (A.deeper (envOfC x (defScope st) s.heap.objs.size f cdv)) →
      DSs (cxOf (L2.CX P w) P w K mg base N x (defScope st) f cdv A outer s H E) cl (fun cls d _ H => E cls d H) (defBody st) p)
    (hp : LawOkS N.length p) : FnG P w K mg base (L2.CX P w) (k + 1) f fd [arg] (spLaw K) := by
  refine okG F S (fun vs H Q E h => ?_) (fun cdv A outer s H vs Q E hr h => ?_)
  · obtain ⟨a, ns, rfl, _⟩ := h; rfl
  · refine ⟨_, hb f cdv A outer s H E hr, ?_⟩
    obtain ⟨a, ns, rfl, hs, hl, q⟩ := h
    obtain ⟨s', hp1⟩ := hp ns hl
    have hst : L2.start N [V.ref a] = some (.ref a) :: List.replicate (N.length - 1) none := rfl
    have noown : ∀ (σ : L2.St) (j : Nat) (c : Addr), ¬ OwnAt ⟨Sl.ob (.scr ns) :: List.replicate (N.length - 1) Sl.no, none⟩ σ j c := by
      rintro σ j c ⟨⟨ds, e⟩, _⟩
      match j with
      | 0 => cases e
      | j + 1 =>
        simp only [List.getElem?_cons_succ, List.getElem?_replicate] at e
        split at e <;> cases e
    -- the script is known from the start: all of the heap is taken as known
    refine ⟨H, ⟨Sl.ob (.scr ns) :: List.replicate (N.length - 1) Sl.no, none⟩, ⟨?_, Ex.refl H, fun j sl e => ?_, fun j _ c z => (noown _ j c z).elim, fun j c z => (noown _ j c z).elim, trivial, fun j c z => (noown _ j c z).elim⟩, ?_⟩
    · rw [hst]; simp
    · rw [hst]
      match j with
      | 0 =>
        cases e
        exact ⟨.ref a, rfl, a, rfl, hs⟩
      | j + 1 =>
        simp only [List.getElem?_cons_succ, List.getElem?_replicate] at e
        split at e
        · cases e; trivial
        · cases e
    · show FOut K cl _ _ _ _ _ (p _) _
      rw [hp1]
      intro v G' σ' H2 st' S' rr
      cases rr
      exact q H2
end
end DL

/-! DL26: bool(x) -/
noncomputable section
namespace DL
open PySem L2 PyProof.Rows
open Evl (Ex)
def boolO : List PyData → Option R
  | [.int i] => some (.val (.bool (i != 0)))
  | [.bool b] => some (.val (.bool b))
  | _ => none
@[simp] theorem x_boolI {a : Int} : boolO [.int a] = some (.val (.bool (a != 0))) := Eq.trans rfl rfl
@[simp] theorem x_boolB {b : Bool} : boolO [.bool b] = some (.val (.bool b)) := Eq.trans rfl rfl
end DL

/-! DL27: a comprehension over an own list that stays own -/
noncomputable section
namespace DL
open PySem L2 PyProof.Rows
open Evl (Ex)
def isOwnL (j : Nat) (ds : List PyData) (s : DSt) : Prop := s.d[j]? = some (.own ds)
instance (j : Nat) (ds : List PyData) (s : DSt) : Decidable (isOwnL j ds s) := Classical.propDecidable _
def loopCO (j : Nat) (all : List PyData) (b : Bd) (ft : M Bool) (fe : M R) (vs : List Nat) : List PyData → List PyData → M (List PyData)
  | [], acc, s => if isOwnL j all s then .ok acc s else .stuck
  | d :: ds, acc, s => if isOwnL j all s then if noOwn vs s.d then match b d { s with d := blank vs s.d } with
      | none => .stuck
      | some s1 => (nerr (ft s1)).bind fun t s2 => if t then (nerr (bnd fe fEsc s2)).bind fun r s3 => match r with
            | .val x => loopCO j all b ft fe vs ds (acc ++ [x]) { s3 with d := putBack vs s.d s3.d }
            | _ => .stuck
          else loopCO j all b ft fe vs ds acc { s2 with d := putBack vs s.d s2.d }
    else .stuck else .stuck
def kNewL : List PyData → M R := fun acc s => .ok (.new acc) s
def kLcO (s : DSt) (j : Nat) (b : Bd) (ft : M Bool) (fe : M R) (vs : List Nat) (ds : List PyData) : Res R := (if leS ds.length then loopCO j ds b ft fe vs ds [] s else .stuck).bind kNewL
def fLcO (j : Nat) (b : Bd) (ft : M Bool) (fe : M R) (vs : List Nat) : M R := fun s => if j ∈ vs then .stuck else match s.d[j]? with
  | some (.own ds) => kLcO s j b ft fe vs ds
  | _ => .stuck
section
variable {X : Cx} {cl : String → Addr} {W : WX} {tg iter : Expr} {pos : Pos}
theorem itO {K : PySem.W.Frag} {j : Nat} {a : Addr} {ds : List PyData} {G' H' : Hp} {s' : DSt} {σ' : L2.St} (S : SA K G' s' σ' H') (e : s'.d[j]? = some (.own ds)) (e2 : σ'[j]? = some (some (.ref a))) (i : Nat) :
    (∀ d, ds[i]? = some d → (Itl K a).go i H' ∧ ∀ x H2, (Itl K a).yld i H' x H2 → ∃ G2, Stp G' s' σ' H' G2 s' σ' H2 ∧ SA K G2 s' σ' H2 ∧ Rp K G2 x d) ∧ (ds.length ≤ i → (Itl K a).stop i H') := by
  obtain ⟨b, xs, e3, hH, hd⟩ := S.slot j _ e
  rw [e2] at e3
  cases e3
  refine ⟨fun d e => ?_, fun hl => ⟨xs, .of hH, by rw [dps_len hd]; exact hl⟩⟩
  have hi : i < xs.length := by rw [dps_len hd]; exact (List.getElem?_eq_some_iff.mp e).1
  refine ⟨⟨xs, xs[i], .of hH, by simp [hi]⟩, fun x H2 ⟨e2, y⟩ => ?_⟩
  subst e2
  obtain ⟨d', e', r⟩ := dps_get hd (y xs (.of hH))
  rw [e] at e'
  cases e'
  exact ⟨G', Stp.refl, S, r⟩
theorem lcO_reads {K : PySem.W.Frag} {gg : TG} {bd : Bd} {js vs : List Nat} {ft : M Bool} {fe : M R} {j : Nat} (ho : GOk K gg bd js) (hj : ∀ j ∈ js, j ∈ vs) {σ : L2.St} {H : Hp} {Q : VK} (q : tD K cl W (fLcO j bd ft fe vs) σ H Q) :
    tLc (iSeq K (tVar j)) gg (tT K cl (fun _ _ _ _ => False) ft) (tD K cl (fun _ _ _ _ => False) fe) vs σ H Q := by
  obtain ⟨G1, s1, S1, q⟩ := q
  unfold fLcO at q
  by_cases hjv : j ∈ vs
  · rw [if_pos hjv] at q; exact q.elim
  rw [if_neg hjv] at q
  split at q
  rotate_left
  · exact q.elim
  rename_i ds eo
  obtain ⟨a, xs, ea, ha, hd⟩ := S1.slot j _ eo
  have ea' : σ[j]? = some (some (.ref a)) := by
    cases z : σ[j]? with
    | none => rw [z] at ea; cases ea
    | some o => rw [z] at ea; simp at ea; rw [ea]
  refine ⟨.ref a, ea', .inl ⟨a, rfl, ⟨xs, .of ha⟩, fun D hD => ?_⟩⟩
  unfold kLcO at q
  have k := out_bind q
  by_cases hz : leS ds.length
  rotate_left
  · rw [if_neg hz] at k; exact k.elim
  rw [if_pos hz] at k
  have hz : ds.length ≤ sizeLine := hz
  obtain ⟨stD, SD, rrD⟩ := new_list (ds := []) S1 hD .nil (fun _ h => h)
  obtain ⟨aD, xD, eD, _, _, gD, _, nD⟩ := rrD
  cases eD
  refine ⟨fun i m H2 => ∃ G2 s2 acc accv, SA K G2 s2 σ H2 ∧ Stp G1 s1 σ H G2 s2 σ H2 ∧ H2 D = some (.lst accv) ∧ RpAll K G2 accv acc ∧ G2 D = none ∧ ¬ Own s2 σ D ∧ acc.length ≤ i ∧ m = ds.length - i ∧ i ≤ ds.length ∧
      Out K cl W G1 s1 σ H (loopCO j ds bd ft fe vs (ds.drop i) acc s2) _, ⟨ds.length, G1, s1, [], [], SD, stD, upd_same, .nil, gD, nD, Nat.le_refl _, by simp, Nat.zero_le _, by simpa using k⟩, ?_⟩
  rintro i m H2 ⟨G2, s2, acc, accv, S2, st2, hD2, hacc, gD2, nD2, hla, rfl, hi, k2⟩
  by_cases hl : i < ds.length
  · rw [List.drop_eq_getElem_cons hl] at k2
    unfold loopCO at k2
    by_cases hown : isOwnL j ds s2
    rotate_left
    · rw [if_neg hown] at k2; exact k2.elim
    rw [if_pos hown] at k2
    have hown : s2.d[j]? = some (.own ds) := hown
    obtain ⟨j1, j2⟩ := itO S2 hown ea' i
    obtain ⟨go, yl⟩ := j1 ds[i] (List.getElem?_eq_getElem hl)
    refine .inr ⟨go, fun H3 => ∃ G3 s3 acc accv, SA K G3 s3 σ H3 ∧ Stp G1 s1 σ H G3 s3 σ H3 ∧ H3 D = some (.lst accv) ∧ RpAll K G3 accv acc ∧ G3 D = none ∧ ¬ Own s3 σ D ∧ acc.length ≤ i + 1 ∧
      Out K cl W G1 s1 σ H (loopCO j ds bd ft fe vs (ds.drop (i + 1)) acc s3) _, fun H3 ⟨G3, s3, acc, accv, a1, a2, a3, a4, a5, a6, a7, a8⟩ => ⟨ds.length - (i + 1), by omega, G3, s3, acc, accv, a1, a2, a3, a4, a5, a6, a7, rfl, hl, a8⟩, fun x H3 y => ?_⟩
    by_cases hn : noOwn vs s2.d = true
    rotate_left
    · rw [if_neg hn] at k2; exact k2.elim
    rw [if_pos hn] at k2
    obtain ⟨stB, SB⟩ := sa_blank vs S2 hn
    have hob : ({ s2 with d := blank vs s2.d } : DSt).d[j]? = some (.own ds) := by
      show (blank vs s2.d)[j]? = _
      rw [blank_get, if_neg hjv]; exact hown
    have eab : (wipe σ vs)[j]? = some (some (.ref a)) := by rw [wipe_get, if_neg hjv]; exact ea'
    obtain ⟨j3, _⟩ := itO SB hob eab i
    obtain ⟨_, yl⟩ := j3 ds[i] (List.getElem?_eq_getElem hl)
    obtain ⟨G3, st3, S3, rp⟩ := yl x H3 y
    cases eb : bd ds[i] { s2 with d := blank vs s2.d } with
    | none => rw [eb] at k2; exact k2.elim
    | some s4 =>
      rw [eb] at k2
      refine ho x ds[i] G3 _ (wipe σ vs) H3 s4 _ S3 rp eb fun σ4 l4 n4 m4 w4 st4 S4 => ?_
      have hw : wipe σ4 vs = wipe σ vs := (wipe_same l4 fun i hi => n4 i fun z => hi (hj i z)).trans (wipe_wipe σ vs)
      refine ⟨hw, G3, s4, S4, ?_⟩
      have stA := (stB.trans st3).trans st4
      have fin : ∀ {G5 : Hp} {s5 : DSt} {H5 : Hp}, Stp G2 s2 σ H2 G5 s5 σ4 H5 → SA K G5 s5 σ4 H5 → SA K G5 { s5 with d := putBack vs s2.d s5.d } σ H5 ∧ Stp G1 s1 σ H G5 { s5 with d := putBack vs s2.d s5.d } σ H5 ∧ H5 D = some (.lst accv) ∧ G5 D = none ∧ ¬ Own { s5 with d := putBack vs s2.d s5.d } σ D := by
        intro G5 s5 H5 st5 S5
        obtain ⟨b1, b2⟩ := sa_back S2 hn S5 st5.ex hw
        obtain ⟨c1, c2⟩ := st5.keep D _ hD2 nD2
        have st6 : Stp G2 s2 σ H2 G5 { s5 with d := putBack vs s2.d s5.d } σ H5 := ⟨st5.ex, st5.keep, fun a z => st5.own a (b2 a z), st5.dom, st5.pw⟩
        exact ⟨b1, st2.trans st6, c1, c2.trans gD2, fun z => (st6.own D z).elim nD2 fun z => by rw [hD2] at z; cases z⟩
      have k2 : Out K cl W G1 s1 σ H ((nerr (ft s4)).bind _) _ := k2
      cases et : ft s4 with
      | err x s5 => rw [et] at k2; exact k2.elim
      | stuck => rw [et] at k2; exact k2.elim
      | ok t s5 =>
        rw [et] at k2
        intro G5 H5 st5 S5
        have st25 := stA.trans st5
        cases t with
        | false =>
          obtain ⟨b1, b2, b3, b4, b5⟩ := fin st25 S5
          exact ⟨G5, _, acc, accv, b1, b2, b3, dps_mono st25.ex _ _ hacc, b4, b5, Nat.le_succ_of_le hla, k2⟩
        | true =>
          have k2 : Out K cl W G1 s1 σ H ((nerr (bnd fe fEsc s5)).bind _) _ := k2
          refine ⟨G5, s5, S5, ?_⟩
          cases ef : fe s5 with
          | err x s6 => rw [bnd_app, ef] at k2; exact k2.elim
          | stuck => rw [bnd_app, ef] at k2; exact k2.elim
          | ok r s6 =>
            rw [bnd_app, ef] at k2
            intro G6 H6 st6 S6 v rr
            have k2 : Out K cl W G1 s1 σ H ((nerr (fEsc r s6)).bind _) _ := k2
            unfold fEsc at k2
            cases ee : esc r s6 with
            | none => rw [ee] at k2; exact k2.elim
            | some p =>
              obtain ⟨r2, s7⟩ := p
              rw [ee] at k2
              obtain ⟨G7, st7, S7, ex7, ar⟩ := esc_ok S6 st6 rr ee
              have st27 := st25.trans st7
              obtain ⟨b1, b2, b3, b4, b5⟩ := fin st27 S7
              cases r2 with
              | raw u => exact k2.elim
              | ob o => exact k2.elim
              | new u => exact k2.elim
              | slot u => exact k2.elim
              | val d =>
                have hacc7 := dps_mono st27.ex _ _ hacc
                refine ⟨accv, b3, ?_, G7, _, acc ++ [d], accv ++ [v], sa_write b1 b4 b5, ⟨b2.ex, fun a o h1 h2 => ?_, b2.own, fun a h1 => ?_, b2.pw⟩, upd_same, dps_app hacc7 (.cons ar .nil), b4, b5, by simp; omega, k2⟩
                · rw [dps_len hacc]
                  omega
                · have ne : a ≠ D := fun z => by subst z; rw [hD] at h1; cases h1
                  rw [upd_ne ne]
                  exact b2.keep a o h1 h2
                · by_cases ne : a = D
                  · subst ne; rw [upd_same]; simp
                  · rw [upd_ne ne]; exact b2.dom a h1
  · have e : i = ds.length := by omega
    subst e
    rw [List.drop_length] at k2
    unfold loopCO at k2
    by_cases hown : isOwnL j ds s2
    rotate_left
    · rw [if_neg hown] at k2; exact k2.elim
    rw [if_pos hown] at k2
    refine .inl ⟨(itO S2 hown ea' ds.length).2 (Nat.le_refl _), ?_⟩
    have k3 := k2 G2 H2 st2 S2
    have k4 := k3 G2 H2 Stp.refl S2 (.ref D) ⟨D, accv, rfl, hD2, hacc, gD2, hD, nD2⟩
    exact k4
theorem s_setLcO {i : Nat} {y : Str} {py : Pos} {elt : Expr} {ifs : List Expr} {scope : Scope} {own : List (Str × Nat)} {spos : Pos} {gg : TG} {bd : Bd} {js : List Nat} {ft : M Bool} {fe : M R} {j : Nat} (hc : X.calm = true) (hN : X.N.Nodup) (hy : X.N[i]? = some y) (hyl : X.env.scope.names.lookup y = some .local)
    (hsw : swapsWith (.ListComp elt [⟨tg, iter, ifs, 0⟩] scope pos) (some (.Name y py)) spos.line X.env = pure true) (hi : PE X iter (tVar j)) (ok : BlkOk X.N X.env.scope scope own) (ho : GOk X.K gg bd js) (hj : ∀ j ∈ js, j ∈ own.map (·.2))
    (hg : ∀ (s : Shared) (H : Hp) (C : Addr) (cl : List (Str × Addr)) (fp : List Addr), PG (X.blk s H scope (compEnvC scope cl C X.env) fp) tg gg) (ht : ∀ (s : Shared) (H : Hp) (C : Addr) (clo : List (Str × Addr)) (fp : List Addr), PTs (X.blk s H scope (compEnvC scope clo C X.env) fp) ifs (tT X.K cl W0 ft))
    (he : ∀ (s : Shared) (H : Hp) (C : Addr) (clo : List (Str × Addr)) (fp : List Addr), DE (X.blk s H scope (compEnvC scope clo C X.env) fp) cl W0 elt fe) (hs : ∀ x, foldedSetIterable iter X.env x = pure x := by intro _; rfl) :
    DS X cl W (.Assign [.Name y py] (.ListComp elt [⟨tg, iter, ifs, 0⟩] scope pos) spos) (fSet i (fLcO j bd ft fe (own.map (·.2)))) := ps_imp (ps_setLc hc hN hy hyl hsw (pi_seq hi) ok hg ht he hs) fun D σ H q => by
  have q' := set_reads q
  exact lcO_reads ho hj q'
end
end DL

/-! DL48: range downwards; x[i], x[j] = a, b of an own list -/
noncomputable section
namespace DL
open PySem L2 PyProof.Rows
open Evl (Ex)
def downD (lo : Int) (n : Nat) : List PyData := (List.range n).map fun (k : Nat) => PyData.int (lo - (k : Int))
theorem it_down {K : PySem.W.Frag} {G : Hp} {lo : Int} {n : Nat} : ItOk K (Itc lo (-1) n) (downD lo n) G := by
  intro G' s' σ' H' ex S i
  refine ⟨fun d e => ?_, fun hl => show n ≤ i by simpa [downD] using hl⟩
  have hi : i < n := by have := (List.getElem?_eq_some_iff.mp e).1; simpa [downD] using this
  have e2 : d = .int (lo - (i : Int)) := by simp [downD, hi] at e; exact e.symm
  subst e2
  exact ⟨hi, fun x H2 ⟨e1, e3⟩ => by
    subst e1
    have : lo + ((i : Nat) : Int) * (-1) = lo - (i : Int) := by omega
    rw [this] at e3
    subst e3
    exact ⟨G', Stp.refl, S, .int _⟩⟩
def kRng3 (rs : List R) (s : DSt) : Res (List PyData) := match rs with
  | [r, r2, r3] => match look r s, look r2 s, look r3 s with
    | some (.int i), some (.int j), some (.int c) => if c = -1 ∧ inB i ∧ inB j then .ok (downD i (i - j).toNat) s else .stuck
    | _, _, _ => .stuck
  | _ => .stuck
def fRng3 (fs : M (List R)) : M (List PyData) := bnd fs kRng3
@[simp] theorem x_rng3 {fs : M (List R)} {s : DSt} : fRng3 fs s = (fs s).bind kRng3 := Eq.trans rfl rfl
@[simp] theorem y_kRng3 (rs : List R) (s : DSt) : kRng3 rs s = (match rs with
  | [r, r2, r3] => match look r s, look r2 s, look r3 s with
    | some (.int i), some (.int j), some (.int c) => if c = -1 ∧ inB i ∧ inB j then .ok (downD i (i - j).toNat) s else .stuck
    | _, _, _ => .stuck
  | _ => .stuck) := Eq.trans rfl rfl
section
variable {X : Cx} {cl : String → Addr} {W : WX} {tg a b c e : Expr} {f g1 g2 : M R} {fs : M (List R)} {pos : Pos}
theorem i_range3 {p pos : Pos} (hg : Gl X "range") (hm : X.mg "range" = none) (ha : DA X cl W [a, b, c] fs)
    (hs : starEach [a, b, c] X.env = (false, eval a X.env) :: starEach [b, c] X.env := by rfl) (hpl : (backTo pos (starEach [b, c] X.env)).any (·.1) = false := by rfl) :
    DI X cl W tg (.Call (.Name "range" p) [a, b, c] [] pos) (fRng3 fs) := by
  refine pi_imp (pi_range3 hg hm ha hs hpl) fun σ H R ⟨G, s, S, q⟩ => ?_
  refine ⟨G, s, S, out_mono (out_bind q) fun rs G1 s1 H1 st1 S1 k vs rr => ?_⟩
  unfold kRng3 at k
  split at k
  · split at k
    · rename_i i j c e1 e2 e3
      split at k
      · rename_i hb
        obtain ⟨hc, h1, h2⟩ := hb
        cases rr with
        | cons r1 r2 =>
          cases r2 with
          | cons r2 r3 =>
            cases r3 with
            | cons r3 r4 =>
              cases r4
              obtain rfl := dq_int (look_q S1 r1 e1)
              obtain rfl := dq_int (look_q S1 r2 e2)
              obtain rfl := dq_int (look_q S1 r3 e3)
              subst hc
              exact ⟨i, j, -1, (i - j).toNat, rfl, RgC.neg h1.1 h1.2 h2.1 h2.2, k G1 H1 Stp.refl S1 _ it_down⟩
      · exact k.elim
    · exact k.elim
  · exact k.elim
def kSwap3 (i : Nat) (d2 : PyData) (r : R) (s : DSt) : Flow := match look r s, s.d[i]? with
  | some (.int n), some (.own ds) => (match ixN ds.length n with
    | some j => .next (putS i (.own (ds.set j d2)) s)
    | none => .stuck)
  | _, _ => .stuck
def kSwap2 (i : Nat) (d1 d2 : PyData) (g2 : M R) (r : R) (s : DSt) : Flow := match look r s, s.d[i]? with
  | some (.int n), some (.own ds) => (match ixN ds.length n with
    | some j => onRes (g2 (putS i (.own (ds.set j d1)) s)) (kSwap3 i d2)
    | none => .stuck)
  | _, _ => .stuck
def kSwap1 (i : Nat) (g1 g2 : M R) (r : R) (s : DSt) : Flow := match r with
  | .val (.tuple [d1, d2]) => onRes (g1 s) (kSwap2 i d1 d2 g2)
  | _ => .stuck
def fSwap (i : Nat) (f g1 g2 : M R) : DSt → Flow := fun s => if isOwn i s = true then onRes (f s) (kSwap1 i g1 g2) else .stuck
@[simp] theorem x_swap {i : Nat} {f g1 g2 : M R} {s : DSt} : fSwap i f g1 g2 s = if isOwn i s = true then onRes (f s) (kSwap1 i g1 g2) else .stuck := Eq.trans rfl rfl
@[simp] theorem y_kSwap1 {i : Nat} {d1 d2 : PyData} {g1 g2 : M R} {s : DSt} : kSwap1 i g1 g2 (.val (.tuple [d1, d2])) s = onRes (g1 s) (kSwap2 i d1 d2 g2) := Eq.trans rfl rfl
@[simp] theorem y_kSwap2 (i : Nat) (d1 d2 : PyData) (g2 : M R) (r : R) (s : DSt) : kSwap2 i d1 d2 g2 r s = (match look r s, s.d[i]? with
  | some (.int n), some (.own ds) => (match ixN ds.length n with
    | some j => onRes (g2 (putS i (.own (ds.set j d1)) s)) (kSwap3 i d2)
    | none => .stuck)
  | _, _ => .stuck) := Eq.trans rfl rfl
@[simp] theorem y_kSwap3 (i : Nat) (d2 : PyData) (r : R) (s : DSt) : kSwap3 i d2 r s = (match look r s, s.d[i]? with
  | some (.int n), some (.own ds) => (match ixN ds.length n with
    | some j => .next (putS i (.own (ds.set j d2)) s)
    | none => .stuck)
  | _, _ => .stuck) := Eq.trans rfl rfl
end
end DL

/-! DL71: B.__init__(self, ..), B an own class over ValueError without an __init__ of its own -/
noncomputable section
namespace DL
open PySem L2 PyProof.Rows PySem.Calls
section
variable {X : Cx} {e : Expr} {es : List Expr} {ta : TA} {p1 p2 pos : Pos} {x : Str} {CF : Addr} {mc : Value}
theorem pe_clsinit {pl : Sem Bool} (hg : Gl X x) (hm : X.mg x = some (.ref CF)) (r : ClX.CRead X.K CF mc) (vV : PySem.W.findCls X.K (.ref CF) mc "__init__" = some (.val (.builtin "ValueError.__init__"))) (ha : PA X (e :: es) ta)
    (hdb : (x == ("__debug__" : Str)) = false := by decide)
    (hc : eval (.Call (.Attribute (.Name x p1) "__init__" p2) (e :: es) [] pos) X.env = (do
      let ov ← eval (.Name x p1) X.env
      standAt p2.atName
      let (f, first) ← holding [ov] (getMethod ov "__init__" pl)
      callWith pos f first (backTo pos (starEach (e :: es) X.env)) (backToKw pos (keywordEach [] X.env))) := by rfl)
    (he : starEach (e :: es) X.env = (false, eval e X.env) :: starEach es X.env := by rfl) (hpl : (backTo pos (starEach es X.env)).any (·.1) = false := by rfl) :
    PE X (.Call (.Attribute (.Name x p1) "__init__" p2) (e :: es) [] pos) (tVeI X.K ta) := by
  refine ⟨fun pins s σ H Q I h => ?_⟩
  refine PySem.W.methodCall_KW (ld_glob I hg hm ?_ hdb) hc
  refine PySem.W.method_cls I.kIn r.ga (PySem.W.cls_value I.kIn r.rd vV (by decide +kernel) ?_)
  show wpAny _ _ (callWith pos (Value.builtin "ValueError.__init__") [] (backTo pos (starEach (e :: es) X.env)) []) _ _ _
  refine PyProof.Rows.callWith_method1 (thn (ha.run pos pins _ σ H _ (I.tok _) h) fun us s1 ⟨vs, H1, I1, r1, a, C, ws, ev, hl, T, ea, q⟩ => ?_) he hpl
  subst ev
  cases r1 with
  | @cons _ u0 _ ur ra rw' =>
    obtain rfl : u0 = Value.ref a := ra
    have hlen : ur.length ≤ sizeLine := by
      rw [← Paired.length rw', sizeLine_eq]
      omega
    exact oinit_ok T I1 ea hlen fun s' J => ⟨.non, H1, J, rfl, q⟩
end
end DL

/-! DL72: errors that bear a number: raised, caught, looked at; a list of them made by hand -/
noncomputable section
namespace DL
open PySem L2 PySem.Spec PyProof.Rows
open Evl (Ex)
/-! ### the facts of the classes -/
structure ExG (K : PySem.W.Frag) (mg : Str → Option Value) (n : String) : Prop where
  g : mg (Str.ofString n) = some (.ref (clOf K n))
  kp : PySem.W.keepIn K (.ref (clOf K n)) = true
  b : PySem.W.subIn K (.ref (clOf K n)) (.type "BaseException") = some true
  ty : PySem.W.typeIn K (.ref (clOf K n)) = some (.type "type")
  c : ExcC K (clOf K n)
  v : PySem.W.subIn K (.ref (clOf K n)) (.type "ValueError") = some true
  x : n ≠ "NoFall" → n ≠ "NoText" → PySem.W.excIn K (clOf K n) [.type "ValueError", .type "Exception", .type "BaseException", .type "object"] "ValueError.__new__" = true
structure ExGs (K : PySem.W.Frag) (mg : Str → Option Value) (ns : List String) : Prop where
  each : ∀ n ∈ ns, ExG K mg n
  top : ∀ n ∈ ns, PySem.W.exmOne K (.ref (clOf K n)) (.ref (clOf K "FolkError")) = some true
  two : ∀ n ∈ ns, ∀ m ∈ ns, PySem.W.kitOne K (.ref (clOf K n)) (.ref (clOf K m)) = some (n == m)
  gF : mg "FolkError" = some (.ref (clOf K "FolkError"))
structure OxF (K : PySem.W.Frag) (mg : Str → Option Value) (n : String) (q : Str) (st : Stmt) : Prop where
  T : OexC K (clOf K n)
  no : PySem.W.findIn K (.ref (clOf K n)) (fieldOf n) = some none
  g : mg (Str.ofString n) = some (.ref (clOf K n))
  fn : ∃ f fd, PySem.W.findIn K (.ref (clOf K n)) "__init__" = some (some (.ref f)) ∧ PySem.W.typeIn K (.ref f) = some (.type "function") ∧ L2.Fun K "__init__" q st f fd ∧ Binds K fd ["self", fieldOf n] []
  bs : ∃ CF, mg "FolkError" = some (.ref CF) ∧ ClX.CRead K CF (.type "type") ∧ PySem.W.findCls K (.ref CF) (.type "type") "__init__" = some (.val (.builtin "ValueError.__init__"))
def inSt (s : Stmt) : Stmt := match s with
  | .ClassDef _ _ _ (d :: _) _ _ _ _ _ _ _ => d
  | s => s
def spInit (K : PySem.W.Frag) (C : Addr) (fld : Str) : Sp := fun vs H Q _ => ∃ (a : Addr) (v : V), vs = [.ref a, v] ∧ H a = some (exo a C none) ∧ ∀ d, H d = none → d ≠ a → Q .non (upd (upd H d (exd d [(fld, v)])) a (exo a C (some d)))
structure InitOk (P : Program) (w : World) (K : PySem.W.Frag) (mg : Str → Option Value) (base : Heap) (n : String) : Prop where
  T : OexC K (clOf K n)
  g : mg (Str.ofString n) = some (.ref (clOf K n))
  ex : ∃ f fd, PySem.W.findIn K (.ref (clOf K n)) "__init__" = some (some (.ref f)) ∧ PySem.W.typeIn K (.ref f) = some (.type "function") ∧ FnOk P w K mg base CX0 1 f fd ["self", fieldOf n] (spInit K (clOf K n) (fieldOf n)) ∧ Binds K fd ["self", fieldOf n] []
def tInit (K : PySem.W.Frag) (m : Str) (fld : Str) : TS := tSeq (tDrop (tVeI K (tCons (tVar 0) (tCons (tC (.str m)) tNil)))) (tOst K fld (tVar 0) (tVar 1))
theorem init_ok {P : Program} {w : World} {K : PySem.W.Frag} {mg : Str → Option Value} {base : Heap} {n : String} {q : Str} {st : Stmt} {m : Str} (O : OxF K mg n q st) (S : FnScope ["self", fieldOf n] ["self", fieldOf n] (defScope st))
    (hb : ∀ (f : Addr) (cdv : Value) (A : Around) (outer : List Env) (s : Shared) (H : Hp) (E : XK), PSs (cxOf CX0 P w K mg base ["self", fieldOf n] q (defScope st) f cdv A outer s H E).nox (defBody st) (tInit K m (fieldOf n))) : InitOk P w K mg base n := by
  obtain ⟨f, fd, h1, h2, F, B⟩ := O.fn
  refine ⟨O.T, O.g, f, fd, h1, h2, F.ok (k := 0) S (fun vs H Q E h => ?_) (fun cdv A outer s H vs Q E hr h => ⟨_, hb f cdv A outer s H E, ?_⟩), B⟩
  · obtain ⟨a, v, rfl, _⟩ := h; rfl
  · obtain ⟨a, v, rfl, ea, k⟩ := h
    exact ⟨.ref a, rfl, a, clOf K n, [.str m], rfl, by simp, O.T, ea, v, rfl, .ref a, rfl, a, clOf K n, rfl, O.T, O.no, .inl ⟨ea, fun dx h1 h2 => k dx h1 h2⟩⟩
/-! ### such an error is made -/
def tMkA (C : Addr) (fld : Str) (te : TE) : L2.St → Hp → XK → Prop := fun σ H Q => te σ H fun v H1 => ∀ d, H1 d = none → Q (.ref C) (some d) (upd H1 d (.xd [(fld, v)]))
theorem upd_del_same {H : Hp} {a d : Addr} {o1 o2 o3 : HO} {o4 : HO} (na : H a = none) (ne : d ≠ a) : upd (del (upd (upd (upd H a o1) d o2) a o3) a) d o4 = upd H d o4 := by
  funext b
  by_cases hd : b = d
  · subst hd; rw [upd_same, upd_same]
  · rw [upd_ne hd, upd_ne hd]
    by_cases ha : b = a
    · subst ha; rw [del_same, na]
    · rw [L2.del_ne ha, upd_ne ha, upd_ne hd, upd_ne ha]
theorem mkO_reads {K : PySem.W.Frag} {cl : String → Addr} {W : WX} {C : Addr} {fld : Str} {f : M R} {σ : L2.St} {H : Hp} {Q : XK} (q : tD K cl W f σ H fun v H1 => ∀ d, H1 d = none → Q (.ref C) (some d) (upd H1 d (.xd [(fld, v)]))) :
    tMkO C (spInit K C fld) [] (tCons (tD K cl W f) tNil) σ H Q := by
  obtain ⟨G, s, S, q⟩ := q
  refine ⟨G, s, S, out_mono q fun r G1 s1 H1 st S1 k v rr => ?_⟩
  refine ⟨by simp, fun a na => ⟨a, v, rfl, upd_same, fun d hd ne => ?_⟩⟩
  have hd1 : H1 d = none := by rw [upd_ne ne] at hd; exact hd
  refine ⟨rfl, d, [(fld, v)], upd_same, ?_, hd1, ?_⟩
  · rw [upd_ne ne, upd_same]
  · rw [upd_del_same na ne]
    exact k v rr d hd1
section
variable {X : Cx} {cl : String → Addr} {W : WX} {x : Str} {n : String} {e iter : Expr} {es : List Expr} {f : M R} {fs : M (List R)} {p pos pos' : Pos}
theorem pmk_arg {te : TE} (O : InitOk X.prog X.w X.K X.mg X.base n) (hr : Room 2 X.A) (hg : Gl X x) (hx : x = Str.ofString n) (ha : PE X e te) (hdb : (x == ("__debug__" : Str)) = false := by decide)
    (he : starEach [e] X.env = (false, eval e X.env) :: starEach [] X.env := by rfl) (hpl : (backTo pos (starEach [] X.env)).any (·.1) = false := by rfl) :
    PMk X (.Call (.Name x p) [e] [] pos) (tMkO (clOf X.K n) (spInit X.K (clOf X.K n) (fieldOf n)) [] (tCons te tNil)) := by
  obtain ⟨f, fd, h1, h2, F, B⟩ := O.ex
  exact pmk_oex (k := 1) (p := p) (ds := []) (dvs := []) O.T h1 h2 F hr B .nil (fun _ _ _ _ _ _ _ z => z.elim) hg (by rw [hx]; exact O.g) (pa_cons ha pa_nil he) hdb he hpl
/-! ### raise C(e) -/
def fRaiseA (n : String) (f : M R) : DSt → Flow := fun s => match f s with
  | .ok (.val (.int i)) s' => .err ⟨n, some (.int i)⟩ s'
  | .err x s' => .err x s'
  | _ => .stuck
theorem s_raiseA (O : InitOk X.prog X.w X.K X.mg X.base n) (hcl : cl = clOf X.K) (hr : Room 2 X.A) (hc : X.calm = true) (tk : Takes X W) (hg : Gl X x) (hx : x = Str.ofString n) (ha : DE X cl W e f) (hdb : (x == ("__debug__" : Str)) = false := by decide)
    (he : starEach [e] X.env = (false, eval e X.env) :: starEach [] X.env := by rfl) (hpl : (backTo pos' (starEach [] X.env)).any (·.1) = false := by rfl) :
    DS X cl W (.Raise (some (.Call (.Name x p) [e] [] pos')) none pos) (fRaiseA n f) := by
  refine ps_imp (ps_raise hc tk (pmk_arg O hr hg hx ha hdb he hpl)) fun D σ H ⟨G, s, S, h⟩ => mkO_reads ?_
  refine ⟨G, s, S, ?_⟩
  unfold fRaiseA at h
  cases ef : f s with
  | err y s1 => rw [ef] at h; exact fun cls d G' H' st S' xr => h cls d G' σ H' st S' xr
  | stuck => rw [ef] at h; exact h
  | ok r s1 =>
    rw [ef] at h
    intro G1 H1 st1 S1 v rr d hd
    cases r with
    | raw u => exact h.elim
    | ob o => exact h.elim
    | slot o => exact h.elim
    | new o => exact h.elim
    | val y =>
      cases y with
      | int i =>
        cases (show Rp X.K G1 v (.int i) from rr)
        obtain ⟨st2, S2⟩ := new_known (.xd [(fieldOf n, .int i)]) S1 hd
        exact h _ _ _ _ _ (st1.trans st2) S2 ⟨by rw [hcl], d, .int i, rfl, upd_same, .int i⟩
      | none => exact h.elim
      | bool b => exact h.elim
      | str b => exact h.elim
      | list b => exact h.elim
      | tuple b => exact h.elim
      | dict b => exact h.elim
end
/-! ### try: .. except FolkError as e: caught = e, where the error may bear a number -/
def isCaughtA (ns : List String) (x : Exn) : Bool := ns.contains x.name && (match x.arg with | none => true | some (.int _) => true | some _ => false)
def fTryA (ns : List String) (i j : Nat) (p : DSt → Flow) : DSt → Flow := fun s => match p s with
  | .err x s' => if isCaughtA ns x = true ∧ i < s'.d.length ∧ j < s'.d.length ∧ i ≠ j then .next (putS i .no (putS j (.ob (.exc x)) s')) else .stuck
  | fl => fl
section
variable {X : Cx} {cl : String → Addr} {W : WX} {x n : Str} {C : Addr} {i j : Nat} {body suite : List Stmt} {b₀ : Stmt} {np pos pos' : Pos} {p : DSt → Flow}
theorem try_outA {K : PySem.W.Frag} {ns : List String} {G H : Hp} {s : DSt} {σ : L2.St} {D : Ends} (hcl : cl = clOf K) (hex : ∀ m ∈ ns, PySem.W.exmOne K (.ref (clOf K m)) (.ref C) = some true) (h : FOut K cl W G s σ H (fTryA ns i j p s) D) : FOut K cl (wKeep K (.ref C) i j W D) G s σ H (p s) D := by
  unfold fTryA at h
  cases e : p s with
  | next s' => rw [e] at h; exact h
  | brk s' => rw [e] at h; exact h
  | cnt s' => rw [e] at h; exact h
  | ret r s' => rw [e] at h; exact h
  | stuck => rw [e] at h; exact h
  | err z s' =>
    rw [e] at h
    dsimp only at h
    split at h
    · rename_i hh
      obtain ⟨h1, hi, hj, hij⟩ := hh
      obtain ⟨zn, za⟩ := z
      unfold isCaughtA at h1
      simp only [Bool.and_eq_true, List.contains_iff_mem] at h1
      obtain ⟨hm, ha0⟩ := h1
      intro cls d G' σ' H' st S' xr
      obtain ⟨ec, ed⟩ := xr
      subst ec hcl
      refine ⟨true, hex zn hm, fun _ a ha => ⟨by rw [← S'.len]; exact hi, ?_⟩, fun q => nomatch q⟩
      rw [set_thrice hij]
      obtain ⟨st2, S2⟩ := new_known (excO a (.ref (clOf K zn)) d) S' ha
      have ob : ObRel K (upd G' a (excO a (.ref (clOf K zn)) d)) (.ref a) (.exc ⟨zn, za⟩) := ⟨a, d, rfl, upd_same, exa_mono st2.ex ed⟩
      have S3 := put_ok (x := .ob (.exc ⟨zn, za⟩)) (v := .ref a) S2 hj ⟨_, rfl, ob⟩ (fun _ _ q => nomatch q)
      have st3 := put_stp (x := .ob (.exc ⟨zn, za⟩)) (v := .ref a) S2 (st.trans st2) hj (fun _ _ q => nomatch q)
      have hi3 : i < (putS j (.ob (.exc ⟨zn, za⟩)) s').d.length := by simpa [putS] using hi
      exact h _ _ _ (no_stp st3 hi3) (no_ok S3 hi3)
    · exact h.elim
theorem s_tryA {ns : List String} (hcl : cl = clOf X.K) (hex : ∀ m ∈ ns, PySem.W.exmOne X.K (.ref (clOf X.K m)) (.ref C) = some true) (hs : X.stack = X.env :: X.outer) (hf : X.env.frame = some X.env.locals) (hx : X.ex = []) (hN : X.N.Nodup) (hi : X.N[i]? = some n) (hln : X.env.kindOf n = some .local) (hc : Names X x (.ref C)) (tk : Takes X W)
    (hb : ∀ (W : WX) (pn : List (Addr × Obj)) (xe : Value → Shared → Prop), Takes (X.tr pn xe) W → PassesOwn (model X.prog X.w) X.A X.env xe → DSs (X.tr pn xe) cl W body p)
    (hsu : ∀ (a : Addr) (oe : Obj) (pn : List (Addr × Obj)), PSs (X.suite a ((a, oe) :: pn)) (b₀ :: suite) (tAsg (tVar i) (gName j))) :
    DS X cl W (.Try body [.ExceptHandler (some (.Name x np)) (some n) (b₀ :: suite) pos'] [] [] pos) (fTryA ns i j p) :=
  ps_imp (try_keep (tb := fun W => tS X.K cl W p) hs hf hx hN hi hln hc tk hb hsu) fun D σ H ⟨G, s, S, h⟩ => ⟨G, s, S, try_outA hcl hex h⟩
end
/-! ### isinstance of what was caught -/
def rIsXA (K : PySem.W.Frag) : List V → Hp → VK → Prop := fun xs H Q => ∃ (a D : Addr) (d : Option Addr) (c : V) (cv : Value) (b : Bool), xs = [.ref a, c] ∧ H a = some (excO a (.ref D) d) ∧ (∀ dd, d = some dd → ∃ fs, H dd = some (.xd fs)) ∧ ExcC K D ∧ ClsV c cv ∧ PySem.W.kitOne K (.ref D) cv = some b ∧ Q (.bl b) H
theorem inst_of {X : Cx} {pins : List (Addr × Obj)} {σ : L2.St} {H : Hp} {s : Shared} {a D : Addr} {d : Option Addr} (I : Inv X pins σ H s) (ha : H a = some (excO a (.ref D) d)) (hd : ∀ dd, d = some dd → ∃ fs, H dd = some (.xd fs)) :
    ∃ oe od, PySem.W.InstAt s.heap a oe D od ∧ ∀ dd, d = some dd → ∃ o mA, od = some o ∧ s.heap.Ns1 dd mA ∧ (∀ name, PySem.W.lookIn name o = some (mA name)) ∧ ∀ fs, H dd = some (.xd fs) → ∀ f, RelO (fs.lookup f) (mA f) := by
  obtain ⟨⟨oe, h1, z, vs, hv⟩, _⟩ := (show ObjOk X.prog X.w H s.heap a (excO a (.ref D) d) from I.hok a _ ha)
  obtain ⟨oc, od0, oda, osl⟩ := oe
  obtain ⟨z1, z2⟩ := z
  dsimp only at z1 z2 hv
  subst z1 z2 hv
  cases od0 with
  | none => exact ⟨_, none, ⟨h1, rfl, rfl, trivial⟩, fun _ q => nomatch q⟩
  | some dd =>
    obtain ⟨fs, hx⟩ := hd dd rfl
    obtain ⟨mA, hns, hr⟩ := (show ObjOk X.prog X.w H s.heap dd (.xd fs) from I.hok dd _ hx)
    obtain ⟨od, ho, hl⟩ := lookIn_ns hns
    refine ⟨_, some od, ⟨h1, rfl, rfl, ho⟩, fun dd2 q => ?_⟩
    cases q
    refine ⟨od, mA, rfl, hns, hl, fun fs2 hx2 => ?_⟩
    rw [hx] at hx2
    cases hx2
    exact hr
theorem call_isXA {X : Cx} : CallR X (.builtin "isinstance") (rIsXA X.K) := by
  intro pins s σ H xs us Q I r h
  obtain ⟨a, D, d, c, cv, b, rfl, ha, hd, C, hcv, e, q⟩ := h
  obtain ⟨u1, u2, rfl, r1, r2⟩ := vals2 r
  cases (show u1 = Value.ref a from r1)
  have ec := hcv.eq r2
  subst ec
  obtain ⟨oe, od, J, _⟩ := inst_of I ha hd
  have hcl : (PySem.W.clsIn X.K D).isSome = true := by obtain ⟨cd, hc, _⟩ := PySem.W.any_some C.hd; rw [hc]; rfl
  exact PySem.W.kia_one (PySem.W.kitx_exc hcl C.hg C.hk C.hs C.ha C.hn C.ht C.hm) I.kIn J e (fun z => nomatch z) fun tk => ⟨.bl b, H, I.kept (t' := tk) fun _ _ z => z, rfl, q⟩
theorem exa_xd {K : PySem.W.Frag} {G H : Hp} {n : String} {d : Option Addr} {arg : Option PyData} (e : Ex G H) (h : ExA K G n d arg) : ∀ dd, d = some dd → ∃ fs, H dd = some (.xd fs) := by
  intro dd q
  cases arg with
  | none => have h : d = none := h; rw [h] at q; cases q
  | some x =>
    obtain ⟨d2, v, e1, e2, _⟩ := h
    rw [e1] at q
    cases q
    exact ⟨_, e _ _ e2⟩
def kIsXA (ns : List String) (m : String) (r : R) (s : DSt) : Res R := match r with
  | .ob (.exc x) => if x.name ∈ ns ∧ m ∈ ns then .ok (.val (.bool (x.name == m))) s else .stuck
  | _ => .stuck
def fIsXA (ns : List String) (m : String) (f : M R) : M R := bnd f (kIsXA ns m)
def kIsVA (ns : List String) (r : R) (s : DSt) : Res R := match r with
  | .ob (.exc x) => if x.name ∈ ns then .ok (.val (.bool true)) s else .stuck
  | _ => .stuck
def fIsVA (ns : List String) (f : M R) : M R := bnd f (kIsVA ns)
def kIsYA (ns : List String) (m : String) (r : R) (s : DSt) : Res R := match r with
  | .ob (.exc x) => if x.name ∈ ns then .ok (.val (.bool false)) s else .stuck
  | _ => .stuck
def fIsYA (ns : List String) (m : String) (f : M R) : M R := bnd f (kIsYA ns m)
def kFld (n : String) (r : R) (s : DSt) : Res R := match r with
  | .ob (.exc ⟨m, some (.int i)⟩) => if m = n then .ok (.val (.int i)) s else .stuck
  | _ => .stuck
def fFld (n : String) (f : M R) : M R := bnd f (kFld n)
def tXfT (K : PySem.W.Frag) (f : Str) (te : TE) : TE := fun σ H Q => te σ H fun x H1 => ∃ (a C dd : Addr) (fs : List (Str × V)) (v : V), x = .ref a ∧ H1 a = some (excO a (.ref C) (some dd)) ∧ XfC K C ∧ PySem.W.findIn K (.ref C) f = some none ∧ H1 dd = some (.xd fs) ∧ fs.lookup f = some v ∧ Q v H1
section
variable {X : Cx} {cl : String → Addr} {W : WX} {x : Str} {n : String} {e iter : Expr} {es : List Expr} {f : M R} {fs : M (List R)} {p p2 pos pos' : Pos}
theorem pe_xfT {te : TE} {g : Str} (he : PE X e te) (hb : attributeBase e g X.env (eval e X.env) = eval e X.env := by rfl) : PE X (.Attribute e g pos) (tXfT X.K g te) := by
  refine ⟨fun pins s σ H Q I h => ?_⟩
  refine attr_of hb (thn (he.run pins s σ H _ I h) fun u s1 ⟨y, H1, I1, rx, a, C, dd, fs, v, ex, ha, T, hno, hx, l, q⟩ => ?_)
  subst ex
  obtain rfl : u = Value.ref a := rx
  obtain ⟨oe, od, J, k⟩ := inst_of I1 ha (fun d2 z => by cases z; exact ⟨fs, hx⟩)
  obtain ⟨o, mA, eo, hns, hl, hr⟩ := k dd rfl
  subst eo
  obtain ⟨u, hu, ru⟩ := RelO.some_of (v := v) (o := mA g) (by rw [← l]; exact hr fs hx g)
  exact HandSPX.exc_get I1.kIn J T.ga T.gg T.exC (PySem.W.findObj_own T.hdC hno rfl (by rw [hl, hu])) (handed_of ru) ⟨v, H1, I1.tok _, ru, q⟩
theorem xfc_of {K : PySem.W.Frag} {C : Addr} (h : ExcC K C) : XfC K C := ⟨h.hg, h.hk, h.hs, h.hd⟩
theorem d_fld {g : Str} (T : ExG X.K X.mg n) (hno : PySem.W.findIn X.K (.ref (clOf X.K n)) (fieldOf n) = some none) (hf : fieldOf n = g) (he : DE X cl W e f) (hb : attributeBase e g X.env (eval e X.env) = eval e X.env := by rfl) : DE X cl W (.Attribute e g pos) (fFld n f) := by
  refine pe_imp (pe_xfT he hb) fun σ H Q ⟨G, s, S, q⟩ => ?_
  refine ⟨G, s, S, out_mono (out_bind q) fun r G1 s1 H1 st1 S1 k v rr => ?_⟩
  unfold kFld at k
  split at k
  · rename_i m i
    split at k
    · rename_i hm
      subst hm hf
      obtain ⟨a, d, rfl, hga, dd, v, e1, e2, e3⟩ := rr
      have e1 : d = some dd := e1
      subst e1
      cases e3
      refine ⟨a, _, dd, _, .int i, rfl, S1.gh _ _ hga, xfc_of T.c, hno, S1.gh _ _ e2, ?_, k G1 H1 Stp.refl S1 _ (.int _)⟩
      show List.lookup (fieldOf m) [(fieldOf m, V.int i)] = _
      simp [List.lookup]
    · exact k.elim
  · exact k.elim
/-! ### isinstance -/
theorem d_isXA {ns : List String} {m : String} (T : ExGs X.K X.mg ns) (hg : Gl X "isinstance") (hm : X.mg "isinstance" = none) (ha : DE X cl W e f) (hx : PE X (.Name x p2) (tC (.ref (clOf X.K m))))
    (he : starEach (e :: [.Name x p2]) X.env = (false, eval e X.env) :: starEach [.Name x p2] X.env := by rfl) (he2 : starEach [.Name x p2] X.env = (false, eval (.Name x p2) X.env) :: starEach [] X.env := by rfl) (hpl : (backTo pos (starEach [.Name x p2] X.env)).any (·.1) = false := by rfl) :
    DE X cl W (.Call (.Name "isinstance" p) [e, .Name x p2] [] pos) (fIsXA ns m f) := by
  refine pe_imp (pe_callB call_isXA hg hm (by decide +kernel) (pa_cons ha (pa_cons hx pa_nil he2) he) (by decide) (by decide) he hpl) fun σ H Q ⟨G, s, S, q⟩ => ?_
  refine ⟨G, s, S, out_mono (out_bind q) fun r G1 s1 H1 st1 S1 k v rr => ?_⟩
  unfold kIsXA at k
  split at k
  · rename_i y
    split at k
    · rename_i hh
      obtain ⟨a, d, rfl, hga, hd⟩ := rr
      exact ⟨a, _, d, _, _, _, rfl, S1.gh _ _ hga, exa_xd S1.gh hd, (T.each _ hh.1).c, .own _, T.two _ hh.1 m hh.2, k G1 H1 Stp.refl S1 _ (.bl _)⟩
    · exact k.elim
  · exact k.elim
theorem d_isVA {ns : List String} (T : ExGs X.K X.mg ns) (hg : Gl X "isinstance") (hm : X.mg "isinstance" = none) (ha : DE X cl W e f) (hx : PE X (.Name "ValueError" p2) (tC (.ty "ValueError")))
    (he : starEach (e :: [.Name "ValueError" p2]) X.env = (false, eval e X.env) :: starEach [.Name "ValueError" p2] X.env := by rfl) (he2 : starEach [.Name "ValueError" p2] X.env = (false, eval (.Name "ValueError" p2) X.env) :: starEach [] X.env := by rfl) (hpl : (backTo pos (starEach [.Name "ValueError" p2] X.env)).any (·.1) = false := by rfl) :
    DE X cl W (.Call (.Name "isinstance" p) [e, .Name "ValueError" p2] [] pos) (fIsVA ns f) := by
  refine pe_imp (pe_callB call_isXA hg hm (by decide +kernel) (pa_cons ha (pa_cons hx pa_nil he2) he) (by decide) (by decide) he hpl) fun σ H Q ⟨G, s, S, q⟩ => ?_
  refine ⟨G, s, S, out_mono (out_bind q) fun r G1 s1 H1 st1 S1 k v rr => ?_⟩
  unfold kIsVA at k
  split at k
  · rename_i y
    split at k
    · rename_i hh
      obtain ⟨a, d, rfl, hga, hd⟩ := rr
      exact ⟨a, _, d, _, _, _, rfl, S1.gh _ _ hga, exa_xd S1.gh hd, (T.each _ hh).c, .ty _, kit_V (T.each _ hh).v, k G1 H1 Stp.refl S1 _ (.bl _)⟩
    · exact k.elim
  · exact k.elim
theorem d_isYA {ns : List String} {m : String} (T : ExGs X.K X.mg ns) (Y : ExY X.K X.mg ns m) (hg : Gl X "isinstance") (hm : X.mg "isinstance" = none) (ha : DE X cl W e f) (hx : PE X (.Name x p2) (tC (.ref (clOf X.K m))))
    (he : starEach (e :: [.Name x p2]) X.env = (false, eval e X.env) :: starEach [.Name x p2] X.env := by rfl) (he2 : starEach [.Name x p2] X.env = (false, eval (.Name x p2) X.env) :: starEach [] X.env := by rfl) (hpl : (backTo pos (starEach [.Name x p2] X.env)).any (·.1) = false := by rfl) :
    DE X cl W (.Call (.Name "isinstance" p) [e, .Name x p2] [] pos) (fIsYA ns m f) := by
  refine pe_imp (pe_callB call_isXA hg hm (by decide +kernel) (pa_cons ha (pa_cons hx pa_nil he2) he) (by decide) (by decide) he hpl) fun σ H Q ⟨G, s, S, q⟩ => ?_
  refine ⟨G, s, S, out_mono (out_bind q) fun r G1 s1 H1 st1 S1 k v rr => ?_⟩
  unfold kIsYA at k
  split at k
  · rename_i y
    split at k
    · rename_i hh
      obtain ⟨a, d, rfl, hga, hd⟩ := rr
      exact ⟨a, _, d, _, _, _, rfl, S1.gh _ _ hga, exa_xd S1.gh hd, (T.each _ hh).c, .own _, Y.two _ hh, k G1 H1 Stp.refl S1 _ (.bl _)⟩
    · exact k.elim
  · exact k.elim
/-! ### a list of errors made by hand -/
theorem inv_made {pins : List (Addr × Obj)} {σ : L2.St} {H' : Hp} {sI s' : Shared} {a : Addr} {oe : Obj} {vs : Array Value} {cls : Value} {d : Option Addr} (J : Inv X pins σ H' sI) (k : ∀ b o, sI.heap.get? b = some o → s'.heap.get? b = some o) (hne : sI.heap.get? a = none) (ha : s'.heap.get? a = some oe)
    (hz : Zc cls d oe) (hd : oe.data = .fields vs) (na : H' a = none) (os : s'.os = sI.os) (ag : AllBare s'.gens) : Inv X pins σ (upd H' a (excO a cls d)) s' := by
  have ne : ∀ b o, sI.heap.get? b = some o → b ≠ a := fun b o e z => by rw [z, hne] at e; cases e
  have nH : ∀ b u, H' b = some u → b ≠ a := fun b u e => ne_of_none e na
  have U : Un (frs X.stack) [] H' (upd H' a (excO a cls d)) sI.heap s'.heap := {
    keep := fun b o z _ _ _ => k b o z
    slot := fun b o z _ _ _ => ⟨o.slots, k b o z⟩
    free := fun b o z n _ => by rw [upd_ne (ne b o z)]; exact n
    there := fun b o z _ => ⟨o, k b o z⟩
    tups := fun b xs z => by rw [upd_ne (nH b _ z)]; exact z
    frzs := fun b o v z => by rw [upd_ne (nH b _ z)]; exact z
    tbls := fun b ps z => ⟨#[], by rw [upd_ne (nH b _ z), z]; simp⟩ }
  exact J.call' os U (J.hok.laidN k na (exc_ok ha hz ⟨_, hd⟩)) ag (fun b z => absurd z (by simp))
def fMkX (n : String) (f : M R) : M R := bnd f fun r s => match r with
  | .val (.int i) => .ok (.ob (.exc ⟨n, some (.int i)⟩)) s
  | _ => .stuck
theorem d_mkX (O : InitOk X.prog X.w X.K X.mg X.base n) (hr : Room 2 X.A) (hg : Gl X x) (hx : x = Str.ofString n) (ha : DE X cl W e f) (hdb : (x == ("__debug__" : Str)) = false := by decide)
    (he : starEach [e] X.env = (false, eval e X.env) :: starEach [] X.env := by rfl) (hpl : (backTo pos (starEach [] X.env)).any (·.1) = false := by rfl) :
    DE X cl W (.Call (.Name x p) [e] [] pos) (fMkX n f) := by
  refine ⟨fun pins s0 σ H Q I ⟨G, s, S, q⟩ => ?_⟩
  have q2 : tMkO (clOf X.K n) (spInit X.K (clOf X.K n) (fieldOf n)) [] (tCons (tD X.K cl W f) tNil) σ H (fun cls d H2 => ∀ a, H2 a = none → Q (.ref a) (upd H2 a (excO a cls d))) := by
    refine mkO_reads ⟨G, s, S, out_mono (out_bind q) fun r G1 s1 H1 st1 S1 k v rr d hd a ha => ?_⟩
    split at k
    · rename_i i
      cases (show Rp X.K G1 v (.int i) from rr)
      obtain ⟨st2, S2⟩ := new_known (.xd [(fieldOf n, .int i)]) S1 hd
      obtain ⟨st3, S3⟩ := new_known (excO a (.ref (clOf X.K n)) (some d)) S2 ha
      exact k _ _ (st2.trans st3) S3 _ ⟨a, some d, rfl, upd_same, d, .int i, rfl, st3.ex _ _ upd_same, .int i⟩
    · exact k.elim
  refine wpAny_mono (pmk_arg O hr hg hx ha hdb he hpl pins s0 σ H _ I q2) (fun u s' ⟨a, oe, vs, sI, H', cls, d, eu, J, k, hne, hao, hz, hd, _, na, os, ag, _, q⟩ => ?_) fun _ _ z => z
  subst eu
  exact ⟨.ref a, _, inv_made J k hne hao hz hd na os ag, rfl, q a na⟩
def exsOf (n : String) : List R → Option (List Int)
  | [] => some []
  | .ob (.exc ⟨m, some (.int i)⟩) :: r => if m = n then (exsOf n r).map (i :: ·) else none
  | _ => none
def fExcs (n : String) (fs : M (List R)) : M R := bnd fs fun rs s => match exsOf n rs with
  | some is => if leS rs.length then .ok (.ob (.excs n is)) s else .stuck
  | none => .stuck
theorem exs_ok {K : PySem.W.Frag} {G : Hp} : ∀ {n : String} {rs : List R} {vs : List V} {is : List Int}, Paired (AR K G) vs rs → exsOf n rs = some is → ExAll K G n vs is
  | n, [], _, is, h, e => by cases h; cases e; exact .nil
  | n, r :: rs, _, is, h, e => by
    cases h with
    | cons h1 h2 =>
      unfold exsOf at e
      split at e
      · rename_i q; cases q
      · rename_i m i r' q
        cases q
        split at e
        · rename_i hm
          subst hm
          obtain ⟨js, ej, e⟩ := Option.map_eq_some_iff.mp e
          subst e
          obtain ⟨a, d, rfl, hga, dd, v, e1, e2, e3⟩ := h1
          have e1 : d = some dd := e1
          subst e1
          cases e3
          exact .cons hga e2 (exs_ok h2 ej)
        · cases e
      · cases e
theorem d_excs (h : DAe X cl W es fs) : DE X cl W (.List es pos) (fExcs n fs) := by
  refine pe_imp (pe_lst h) fun σ H Q ⟨G, s, S, q⟩ => ?_
  refine ⟨G, s, S, out_mono (out_bind q) fun rs G1 s1 H1 st1 S1 k vs rr => ?_⟩
  split at k
  · rename_i is e
    split at k
    · rename_i hz
      refine ⟨by rw [Paired.length rr]; exact hz, fun p hp => ?_⟩
      obtain ⟨st2, S2⟩ := new_known (.lst vs) S1 hp
      exact k _ _ st2 S2 _ ⟨p, vs, rfl, upd_same, exall_mono st2.ex (exs_ok rr e)⟩
    · exact k.elim
  · exact k.elim
def fFlds (n : String) (i : Nat) (f : M R) : M R := bnd f fun r s => match r with
  | .ob (.excs m is) => if m = n ∧ leS is.length ∧ i < s.d.length then .ok (.new (is.map .int)) s else .stuck
  | _ => .stuck
theorem exall_len {K : PySem.W.Frag} {G : Hp} : ∀ {vs : List V} {is : List Int}, ExAll K G n vs is → vs.length = is.length
  | _, _, .nil => rfl
  | _, _, .cons _ _ t => by simp [exall_len t]
theorem exall_get {K : PySem.W.Frag} {G : Hp} : ∀ {vs : List V} {is : List Int} {i : Nat} {v : V}, ExAll K G n vs is → vs[i]? = some v → ∃ (b d : Addr) (z : Int), v = .ref b ∧ is[i]? = some z ∧ G b = some (excO b (.ref (clOf K n)) (some d)) ∧ G d = some (.xd [(fieldOf n, .int z)])
  | _, _, i, v, .nil, e => by simp at e
  | _, _, 0, v, .cons h1 h2 t, e => by simp at e; subst e; exact ⟨_, _, _, rfl, rfl, h1, h2⟩
  | _, _, i + 1, v, .cons h1 h2 t, e => by simpa using exall_get (i := i) t (by simpa using e)
theorem flds_reads {K : PySem.W.Frag} {mg : Str → Option Value} {vs : List Nat} {i : Nat} (T : ExG K mg n) (hno : PySem.W.findIn K (.ref (clOf K n)) (fieldOf n) = some none) (hj : i ∈ vs) {σ : L2.St} {H : Hp} {Q : VK} (q : tD K cl W (fFlds n i f) σ H Q) :
    tLc (iSeq K (tD K cl W f)) (gName i) (fun _ H Q => Q true H) (tXfT K (fieldOf n) (tVar i)) vs σ H Q := by
  obtain ⟨G, s, S, q⟩ := q
  refine ⟨G, s, S, out_mono (out_bind q) fun r G1 s1 H1 st1 S1 k v rr => ?_⟩
  split at k
  rotate_left
  · exact k.elim
  rename_i m is
  split at k
  rotate_left
  · exact k.elim
  rename_i hh
  obtain ⟨rfl, hz, hi⟩ := hh
  obtain ⟨a, us, rfl, hga, hall⟩ := rr
  have hHa := S1.gh _ _ hga
  refine .inl ⟨a, rfl, ⟨us, .of hHa⟩, fun D hD => ?_⟩
  have nDa : a ≠ D := fun z => by rw [z, hD] at hHa; cases hHa
  have hlu := exall_len hall
  have keep : ∀ {b : Addr} {o u : HO}, G1 b = some o → upd H1 D u b = some o := fun {b o u} e => by
    have e2 := S1.gh _ _ e
    rw [upd_ne (ne_of_none e2 hD)]
    exact e2
  refine ⟨fun j l H2 => H2 = upd H1 D (.lst ((is.take j).map V.int)) ∧ l = is.length - j ∧ j ≤ is.length, ⟨is.length, by simp, by simp, Nat.zero_le _⟩, ?_⟩
  rintro j l H2 ⟨rfl, rfl, hj2⟩
  have hl : SqL K (upd H1 D (.lst ((is.take j).map V.int))) a us := .of (keep hga)
  by_cases hlt : j < is.length
  · have hju : j < us.length := by rw [hlu]; exact hlt
    refine .inr ⟨⟨us, us[j], hl, by simp [hju]⟩, fun H3 => H3 = upd H1 D (.lst ((is.take (j + 1)).map V.int)), fun H3 e => ⟨is.length - (j + 1), by omega, e, rfl, hlt⟩, fun x H3 ⟨e3, y⟩ => ?_⟩
    subst e3
    obtain ⟨b, d, z, ex, ez, h1, h2⟩ := exall_get hall (y us hl)
    subst ex
    have hlen : i < (wipe σ vs).length := by rw [wipe_length, ← S1.len]; exact hi
    refine ⟨(wipe_same (by simp) fun k hk => by rw [List.getElem?_set_ne (by rintro rfl; exact hk hj)]).trans (wipe_wipe σ vs), ?_⟩
    show tXfT K (fieldOf m) (tVar i) _ _ _
    refine ⟨.ref b, List.getElem?_set_self hlen, b, _, d, _, .int z, rfl, keep h1, xfc_of T.c, hno, keep h2, by simp [List.lookup], (is.take j).map V.int, upd_same, ?_, ?_⟩
    · have hz : is.length ≤ sizeLine := hz
      simp only [List.length_map, List.length_take]
      omega
    · have e5 : is.take (j + 1) = is.take j ++ [z] := by rw [List.take_succ, ez]; rfl
      rw [e5]
      funext c
      by_cases hc : c = D
      · subst hc; simp [upd_same]
      · rw [upd_ne hc, upd_ne hc, upd_ne hc]
  · have e : j = is.length := by omega
    subst e
    refine .inl ⟨⟨us, hl, by rw [hlu]; exact Nat.le_refl _⟩, ?_⟩
    rw [List.take_length]
    obtain ⟨st2, S2, rr2⟩ := new_list (p := D) (vs := is.map V.int) (ds := is.map PyData.int) S1 hD (rp_ints is) st1.dom
    exact k _ _ st2 S2 _ rr2
theorem d_flds {apos epos tpos : Pos} {scope : Scope} {own : List (Str × Nat)} {g : Str} {i : Nat} (hc : X.calm = true) (hN : X.N.Nodup) (he : DE X cl W iter f) (ok : BlkOk X.N X.env.scope scope own) (hj : i ∈ own.map (·.2)) (T : ExG X.K X.mg n) (hno : PySem.W.findIn X.K (.ref (clOf X.K n)) (fieldOf n) = some none) (hf : fieldOf n = g)
    (hg : ∀ (s : Shared) (H : Hp) (C : Addr) (cl : List (Str × Addr)) (fp : List Addr), PG (X.blk s H scope (compEnvC scope cl C X.env) fp) (.Name x tpos) (gName i)) 
    (hv : ∀ (s : Shared) (H : Hp) (C : Addr) (clo : List (Str × Addr)) (fp : List Addr), PE (X.blk s H scope (compEnvC scope clo C X.env) fp) (.Name x epos) (tVar i))
    (hb : ∀ (s : Shared) (H : Hp) (C : Addr) (clo : List (Str × Addr)) (fp : List Addr), attributeBase (.Name x epos) g (compEnvC scope clo C X.env) (eval (.Name x epos) (compEnvC scope clo C X.env)) = eval (.Name x epos) (compEnvC scope clo C X.env)) (hs : ∀ x, foldedSetIterable iter X.env x = pure x := by intro _; rfl) :
    DE X cl W (.ListComp (.Attribute (.Name x epos) g apos) [⟨.Name x tpos, iter, [], 0⟩] scope pos) (fFlds n i f) := by
  subst hf
  exact pe_imp (pe_lc hc hN (pi_seq he) ok hg (fun s H C clo fp => pts_nil) (fun s H C clo fp => pe_xfT (hv s H C clo fp) (hb s H C clo fp)) hs) fun σ H Q q => flds_reads T hno hj q
end
/-! ### rows for simp -/
section
variable {s : DSt} {f : M R} {fs : M (List R)} {p : DSt → Flow} {n : String}
def kRaiseA (n : String) (r : R) (s : DSt) : Flow := match r with
  | .val (.int i) => .err ⟨n, some (.int i)⟩ s
  | _ => .stuck
@[simp] theorem x_raiseA : fRaiseA n f s = onRes (f s) (kRaiseA n) := by
  unfold fRaiseA onRes kRaiseA
  cases f s with
  | ok r s' => cases r with
    | val d => cases d <;> rfl
    | _ => rfl
  | err x s' => rfl
  | stuck => rfl
@[simp] theorem y_kRaiseA {i : Int} : kRaiseA n (.val (.int i)) s = .err ⟨n, some (.int i)⟩ s := Eq.trans rfl rfl
def kTryA (ns : List String) (i j : Nat) (fl : Flow) : Flow := match fl with
  | .err x s' => if isCaughtA ns x = true ∧ i < s'.d.length ∧ j < s'.d.length ∧ i ≠ j then .next (putS i .no (putS j (.ob (.exc x)) s')) else .stuck
  | fl => fl
@[simp] theorem x_tryA {ns : List String} {i j : Nat} : fTryA ns i j p s = kTryA ns i j (p s) := by
  unfold fTryA kTryA
  cases p s <;> rfl
@[simp] theorem y_kTryA_next {ns : List String} {i j : Nat} : kTryA ns i j (.next s) = .next s := Eq.trans rfl rfl
@[simp] theorem y_kTryA_ret {ns : List String} {i j : Nat} {r : R} : kTryA ns i j (.ret r s) = .ret r s := Eq.trans rfl rfl
def argOk (a : Option PyData) : Prop := a = none ∨ ∃ i, a = some (.int i)
theorem y_kTryA_err {ns : List String} {i j : Nat} {n : String} {a : Option PyData} (h : argOk a) : kTryA ns i j (.err ⟨n, a⟩ s) = if n ∈ ns ∧ i < s.d.length ∧ j < s.d.length ∧ i ≠ j then .next (putS i .no (putS j (.ob (.exc ⟨n, a⟩)) s)) else .stuck := by
  show (if isCaughtA ns ⟨n, a⟩ = true ∧ _ then _ else _) = _
  have : isCaughtA ns ⟨n, a⟩ = true ↔ n ∈ ns := by
    rcases h with rfl | ⟨i, rfl⟩ <;> simp [isCaughtA]
  simp only [this]
@[simp] theorem y_kIsXA {ns : List String} {m : String} {x : Exn} : kIsXA ns m (.ob (.exc x)) s = if x.name ∈ ns ∧ m ∈ ns then .ok (.val (.bool (x.name == m))) s else .stuck := Eq.trans rfl rfl
@[simp] theorem x_isXA {ns : List String} {m : String} : fIsXA ns m f s = (f s).bind (kIsXA ns m) := Eq.trans rfl rfl
@[simp] theorem y_kIsVA {ns : List String} {x : Exn} : kIsVA ns (.ob (.exc x)) s = if x.name ∈ ns then .ok (.val (.bool true)) s else .stuck := Eq.trans rfl rfl
@[simp] theorem x_isVA {ns : List String} : fIsVA ns f s = (f s).bind (kIsVA ns) := Eq.trans rfl rfl
@[simp] theorem y_kIsYA {ns : List String} {m : String} {x : Exn} : kIsYA ns m (.ob (.exc x)) s = if x.name ∈ ns then .ok (.val (.bool false)) s else .stuck := Eq.trans rfl rfl
@[simp] theorem x_isYA {ns : List String} {m : String} : fIsYA ns m f s = (f s).bind (kIsYA ns m) := Eq.trans rfl rfl
@[simp] theorem y_kFld {m : String} {i : Int} : kFld n (.ob (.exc ⟨m, some (.int i)⟩)) s = if m = n then .ok (.val (.int i)) s else .stuck := Eq.trans rfl rfl
@[simp] theorem x_fld : fFld n f s = (f s).bind (kFld n) := Eq.trans rfl rfl
def kMkX (n : String) (r : R) (s : DSt) : Res R := match r with
  | .val (.int i) => .ok (.ob (.exc ⟨n, some (.int i)⟩)) s
  | _ => .stuck
@[simp] theorem x_mkX : fMkX n f s = (f s).bind (kMkX n) := Eq.trans rfl rfl
@[simp] theorem y_kMkX {i : Int} : kMkX n (.val (.int i)) s = .ok (.ob (.exc ⟨n, some (.int i)⟩)) s := Eq.trans rfl rfl
def kExcs (n : String) (rs : List R) (s : DSt) : Res R := match exsOf n rs with
  | some is => if leS rs.length then .ok (.ob (.excs n is)) s else .stuck
  | none => .stuck
@[simp] theorem x_excs : fExcs n fs s = (fs s).bind (kExcs n) := Eq.trans rfl rfl
def kFlds (n : String) (i : Nat) (r : R) (s : DSt) : Res R := match r with
  | .ob (.excs m is) => if m = n ∧ leS is.length ∧ i < s.d.length then .ok (.new (is.map .int)) s else .stuck
  | _ => .stuck
@[simp] theorem x_flds {i : Nat} : fFlds n i f s = (f s).bind (kFlds n i) := Eq.trans rfl rfl
@[simp] theorem y_kFlds {m : String} {i : Nat} {is : List Int} : kFlds n i (.ob (.excs m is)) s = if m = n ∧ leS is.length ∧ i < s.d.length then .ok (.new (is.map .int)) s else .stuck := Eq.trans rfl rfl
@[simp] theorem y_kExcs3 {a b c : Int} (h : leS 3) : kExcs n [.ob (.exc ⟨n, some (.int a)⟩), .ob (.exc ⟨n, some (.int b)⟩), .ob (.exc ⟨n, some (.int c)⟩)] s = .ok (.ob (.excs n [a, b, c])) s := by
  unfold kExcs
  simp [exsOf, h]
end
/-! ### the facts of the classes, from the written part -/
section
variable {K : PySem.W.Frag} {h : Heap} {mg : Str → Option Value} {n : String} {C CF : Addr}
theorem exg_mk (X : PySem.W.Frag.In K h) (G : h.Ns mainGlobals mg) (a : PySem.W.nsIn K mainGlobals (Str.ofString n) = some (some (.ref C))) (x : n ≠ "NoFall" → n ≠ "NoText" → PySem.W.excIn K C [.type "ValueError", .type "Exception", .type "BaseException", .type "object"] "ValueError.__new__" = true) (kp : PySem.W.keepIn K (.ref C) = true)
    (b : PySem.W.subIn K (.ref C) (.type "BaseException") = some true) (ty : PySem.W.typeIn K (.ref C) = some (.type "type")) (v : PySem.W.subIn K (.ref C) (.type "ValueError") = some true) (hd : PySem.W.hasDictIn K C = true)
    (hg : PySem.W.findIn K (.ref C) "__getattribute__" = some (some (.builtin "BaseException.__getattribute__"))) (hk : PySem.W.findIn K (.ref C) "__getattr__" = some none) (hc : PySem.W.findIn K (.ref C) "__class__" = some (some (.builtin "object.__class__")))
    (hm : PySem.W.mroIn K C (.type "object") = some true) (s0 : PySem.W.specialIn K (.builtin "object.__class__") "__get__" = some (some (.builtin "getset_descriptor.__get__"))) (t0 : PySem.W.takesIn K (.builtin "object.__class__") = some true) : ExG K mg n := by
  have g := PySem.W.mg_of X G a
  have e := clOf_of a
  subst e
  exact ⟨g, kp, b, ty, ⟨hg, hk, b, hd, hc, s0, t0, hm⟩, v, x⟩
theorem ox_mk {q g : Str} {st : Stmt} {f : Addr} {oc : Value} {od an : Option Addr} {osl : Array (Option Value)} {kV dc pm cdv ct : Value} {nm qn : Str} {N : Addr} {bs bm : List Value} {sn : List Str} {sub : List Value} {ab : Bool} {col : Option Bool} {dd : Option Addr} {k0 k1 k2 k3 k5 : Option Value}
    (X : PySem.W.Frag.In K h) (G : h.Ns mainGlobals mg) (fl : fieldOf n = g) (ca : PySem.W.nsIn K mainGlobals (Str.ofString n) = some (some (.ref C))) (co : K.lookup C = some (excClassObj nm qn C N bs bm true sn sub ab col dd k0 k1 k2 k3 k5 "ValueError.__new__")) (cr : PySem.HandSPX.refsVE bm = true)
    (sa : PySem.W.findIn K (.ref C) "__setattr__" = some (some (.builtin "object.__setattr__"))) (cb : PySem.W.subIn K (.ref C) (.type "BaseException") = some true) (ct' : PySem.W.typeIn K (.ref C) = some (.type "type")) (ck : PySem.W.keepIn K (.ref C) = true)
    (no : PySem.W.findIn K (.ref C) g = some none) (fi : PySem.W.findIn K (.ref C) "__init__" = some (some (.ref f))) (tf : PySem.W.typeIn K (.ref f) = some (.type "function"))
    (l : K.lookup f = some ⟨oc, od, .func (PySem.W.fnOf "__init__" q (defArgs st) (defBody st) (defScope st) .none kV dc pm an cdv ct), osl⟩) (c : PySem.W.codeIn K cdv q = true) (k : PySem.W.keepIn K (.ref f) = true)
    (bi : ∀ (kV doc pm : Value) (an : Option Addr) (cdv ct : Value) (us : List Value), us.length = 2 → bindArgs (PySem.W.fnOf "__init__" q (defArgs st) (defBody st) (defScope st) .none kV doc pm an cdv ct) ⟨us, []⟩ = pure ((["self", g] : List Str).zip us))
    (caF : PySem.W.nsIn K mainGlobals "FolkError" = some (some (.ref CF))) (rd : PySem.W.readsIn K CF (.type "type") = true) (ga : PySem.W.specialIn K (.ref CF) "__getattribute__" = some (some (.builtin "type.__getattribute__")))
    (fc : PySem.W.findCls K (.ref CF) (.type "type") "__init__" = some (.val (.builtin "ValueError.__init__"))) : OxF K mg n q st := by
  have gm := PySem.W.mg_of X G ca
  have e := clOf_of ca
  subst e fl
  have F : L2.Fun K "__init__" q st f _ := fun_mk l c k
  exact ⟨⟨⟨_, _, _, _, _, _, _, _, _, _, _, _, _, _, _, co, cr⟩, sa, cb, ct', ck⟩, no, gm, ⟨f, _, fi, tf, F, F.binds bi⟩, ⟨CF, PySem.W.mg_of X G caF, ⟨rd, ga⟩, fc⟩⟩
end
end DL

noncomputable section
namespace DL
open PySem L2
def b_law_purse_1 : DSt → Flow := fIfS (fB (fOp (lift2 geO) (fCall absO (pCons (fOp (lift2 ixO) (fVar 1) (fVar 2)) fNil)) (fOp (lift2 powO) (fC (.int 10)) (fC (.int 18))))) (fSetIx 1 (fOp (lift2 modO) (fOp (lift2 ixO) (fVar 1) (fVar 2)) (fOp (lift2 powO) (fOp (lift2 powO) (fC (.int 10)) (fC (.int 60))) (fC (.int 20)))) (fVar 2)) fnext
abbrev o_law_purse_1 : List PyData → DSt → Flow := loopF (bName 2) b_law_purse_1
def p_law_purse : DSt → Flow := fseq (fFor (fRng1 (pCons (fCall lenO (pCons (fVar 1) fNil)) fNil)) (bName 2) b_law_purse_1) (fseq (fIfS (fB (fOp (lift2 eqO) (fVar 1) (fLst fNil))) (fSet 1 (fLst (fCons (fC (.int 0)) fNil))) fnext) (fRet (fLst (fCons (fVar 1) (fCons (fC (.int 0)) fNil)))))
def F_law_purse : List R → Pw → FRes := runF 3 1 p_law_purse
def p_law_draw : DSt → Flow := fseq (fUnP 0 2 3) (fseq (fSet 4 (fOp (lift2 modO) (fVar 3) (fLenC 2))) (fseq (fSet 5 (fIxC 2 (fVar 4))) (fseq (fSetT 0 (fOp (lift2 addO) (fVar 3) (fC (.int 1)))) (fseq (fIfS (fB (fOp (lift2 geO) (fVar 5) (fOp (lift2 powO) (fC (.int 10)) (fC (.int 18))))) (fseq (fSetC 2 (fOp (lift2 fdivO) (fVar 5) (fVar 1)) (fVar 4)) (fRet (fOp (lift2 modO) (fVar 5) (fVar 1)))) fnext) (fseq (fSet 6 (fOp (lift2 modO) (fOp (lift2 addO) (fOp (lift2 addO) (fOp (lift2 mulO) (fOp (lift2 modO) (fVar 5) (fC (.int 2147483629))) (fC (.int 48271))) (fOp (lift2 mulO) (fOp (lift2 mulO) (fVar 3) (fVar 3)) (fC (.int 69621)))) (fC (.int 11))) (fC (.int 2147483647)))) (fseq (fSet 6 (fOp (lift2 modO) (fOp (lift2 mulO) (fVar 6) (fVar 6)) (fC (.int 2147483629)))) (fseq (fSet 6 (fOp (lift2 modO) (fOp (lift2 mulO) (fVar 6) (fVar 6)) (fC (.int 2147483587)))) (fseq (fIfS (fB (fOp (lift2 gtO) (fVar 1) (fOp (lift2 powO) (fC (.int 10)) (fC (.int 9))))) (fseq (fSet 7 (fOp (lift2 modO) (fOp (lift2 addO) (fOp (lift2 addO) (fOp (lift2 mulO) (fVar 6) (fC (.int 39373))) (fOp (lift2 mulO) (fVar 3) (fC (.int 7919)))) (fC (.int 500))) (fC (.int 2147483629)))) (fSet 6 (fOp (lift2 mulO) (fVar 6) (fOp (lift2 addO) (fOp (lift2 mulO) (fOp (lift2 mulO) (fVar 7) (fVar 7)) (fVar 7)) (fC (.int 1)))))) fnext) (fRet (fOp (lift2 modO) (fVar 6) (fVar 1)))))))))))
def F_law_draw : List R → Pw → FRes := runF 8 2 p_law_draw
def WP (pa : Addr) (w : Pw) (m : Int) : Prop := ∃ (ca : Addr) (cells : List Int) (t : Int), pa ≠ ca ∧ w = some (pa, ca, cells, t) ∧ cells ≠ [] ∧ 0 ≤ t ∧ t ≤ m
theorem WP.mono {pa : Addr} {w : Pw} {m m' : Int} (h : WP pa w m) (h2 : m ≤ m') : WP pa w m' := by
  obtain ⟨ca, cells, t, ne, e, hc, t0, tm⟩ := h
  exact ⟨ca, cells, t, ne, e, hc, t0, by omega⟩
end DL

noncomputable section
namespace DL
open PySem L2
def c_law_mixed_1 : M Bool := fB (fOp (lift2 neO) (fVar 2) (fLst fNil))
def b_law_mixed_2 : DSt → Flow := fDrop (fApp 3 (fPopAt 2 (fUser F_law_draw (fCons (fVar 0) (fCons (fCall lenO (pCons (fVar 2) fNil)) fNil)))))
abbrev o_law_mixed_2 : DSt → Flow := whileF c_law_mixed_1 b_law_mixed_2 10000
def p_law_mixed : DSt → Flow := fseq (fSet 2 (fCall listO (pCons (fVar 1) fNil))) (fseq (fSet 3 (fLst fNil)) (fseq (whileF c_law_mixed_1 b_law_mixed_2 10000) (fRet (fVar 3))))
def F_law_mixed : List R → Pw → FRes := runF 4 2 p_law_mixed
def b_law_names_1 : DSt → Flow := fseq (fSet 5 (fLst (fCons (fC (.int 1)) (fCons (fOp (lift2 addO) (fC (.int 1)) (fUser F_law_draw (fCons (fVar 0) (fCons (fC (.int 3)) fNil)))) (fCons (fOp (lift2 addO) (fC (.int 1)) (fUser F_law_draw (fCons (fVar 0) (fCons (fOp (lift2 powO) (fC (.int 10)) (fC (.int 28))) fNil)))) fNil))))) (fseq (fSet 3 (fOp (lift2 addO) (fVar 3) (fOp (lift2 ixO) (fVar 5) (fOp (lift2 fdivO) (fUser F_law_draw (fCons (fVar 0) (fCons (fC (.int 6)) fNil))) (fC (.int 2)))))) (fDrop (fApp 2 (fVar 3))))
abbrev o_law_names_1 : List PyData → DSt → Flow := loopF (bName 4) b_law_names_1
def p_law_names : DSt → Flow := fseq (fSet 2 (fLst fNil)) (fseq (fSet 3 (fUn (lift1 negO) (fC (.int 1)))) (fseq (fFor (fRng1 (pCons (fVar 1) fNil)) (bName 4) b_law_names_1) (fRet (fVar 2))))
def F_law_names : List R → Pw → FRes := runF 6 2 p_law_names
/-! drawn lists -/
end DL

noncomputable section
namespace DL
open PySem L2
def p_is_number : DSt → Flow := fRet (fAndV (fIsi "int" (fVar 0)) (fV (fNot (fB (fIsi "bool" (fVar 0))))))
def F_is_number : List R → Pw → FRes := runF 1 1 p_is_number
def e_are_unlike_names_1 : M R := fAndV (fUser F_is_number (fCons (fVar 1) fNil)) (fOp (lift2 geO) (fVar 1) (fC (.int 0)))
abbrev l_are_unlike_names_1 : M R := fLc (fLstI (fVar 0)) (bName 1) fYes (e_are_unlike_names_1) [1]
def p_are_unlike_names : DSt → Flow := fseq (fIfS (fOr (fNot (fB (fIsi "list" (fVar 0)))) (fNot (fB (fCall allO (pCons (fLc (fLstI (fVar 0)) (bName 1) fYes (e_are_unlike_names_1) [1]) fNil))))) (fRet (fC (.bool false))) fnext) (fRet (fOp (lift2 eqO) (fLenSet (fVar 0)) (fCall lenO (pCons (fVar 0) fNil))))
def F_are_unlike_names : List R → Pw → FRes := runF 2 1 p_are_unlike_names
def p_is_ranking : DSt → Flow := fRet (fAndV (fUser F_are_unlike_names (fCons (fVar 0) fNil)) (fAndV (fOp (lift2 gtO) (fCall lenO (pCons (fVar 0) fNil)) (fC (.int 0))) (fOp (lift2 leO) (fCall lenO (pCons (fVar 0) fNil)) (fC (.int 10)))))
def F_is_ranking : List R → Pw → FRes := runF 1 1 p_is_ranking
def p_must_be_ranking : DSt → Flow := fIfS (fNot (fB (fUser F_is_ranking (fCons (fVar 0) fNil)))) (fRaise "NoRanking") fnext
def F_must_be_ranking : List R → Pw → FRes := runF 1 1 p_must_be_ranking
def p_is_ahead : DSt → Flow := fRet (fOp (lift2 ltO) (fIndex (fVar 0) (fVar 1)) (fIndex (fVar 0) (fVar 2)))
def F_is_ahead : List R → Pw → FRes := runF 3 3 p_is_ahead
def p_ahead : DSt → Flow := fseq (fDrop (fUser F_must_be_ranking (fCons (fVar 0) fNil))) (fseq (fIfS (fOr (fB (fOp (lift2 notInO) (fVar 1) (fVar 0))) (fOr (fB (fOp (lift2 notInO) (fVar 2) (fVar 0))) (fB (fOp (lift2 eqO) (fVar 1) (fVar 2))))) (fRaise "NoNames") fnext) (fRet (fUser F_is_ahead (fCons (fVar 0) (fCons (fVar 1) (fCons (fVar 2) fNil))))))
def F_ahead : List R → Pw → FRes := runF 3 3 p_ahead
def e_places_of_pairs_1 : M R := fTup (fCons (fVar 2) (fCons (fVar 3) fNil))
abbrev l_places_of_pairs_1 : M R := fLc (fRng2 (pCons (fOp (lift2 addO) (fVar 2) (fC (.int 1))) (pCons (fVar 0) fNil))) (bName 3) fYes (e_places_of_pairs_1) [3]
def b_places_of_pairs_2 : DSt → Flow := fSet 1 (fOp (lift2 addO) (fVar 1) (fLc (fRng2 (pCons (fOp (lift2 addO) (fVar 2) (fC (.int 1))) (pCons (fVar 0) fNil))) (bName 3) fYes (e_places_of_pairs_1) [3]))
abbrev o_places_of_pairs_2 : List PyData → DSt → Flow := loopF (bName 2) b_places_of_pairs_2
def p_places_of_pairs : DSt → Flow := fseq (fSet 1 (fLst fNil)) (fseq (fFor (fRng1 (pCons (fVar 0) fNil)) (bName 2) b_places_of_pairs_2) (fRet (fVar 1)))
def F_places_of_pairs : List R → Pw → FRes := runF 4 1 p_places_of_pairs
def e_pairs_of_1 : M R := fTup (fCons (fOp (lift2 ixO) (fVar 0) (fVar 1)) (fCons (fOp (lift2 ixO) (fVar 0) (fVar 2)) fNil))
abbrev l_pairs_of_1 : M R := fLc (fLstI (fUser F_places_of_pairs (fCons (fCall lenO (pCons (fVar 0) fNil)) fNil))) (bTup 2 (bCons (bName 1) (bCons (bName 2) bNil))) fYes (e_pairs_of_1) [1, 2]
def p_pairs_of : DSt → Flow := fRet (fLc (fLstI (fUser F_places_of_pairs (fCons (fCall lenO (pCons (fVar 0) fNil)) fNil))) (bTup 2 (bCons (bName 1) (bCons (bName 2) bNil))) fYes (e_pairs_of_1) [1, 2])
def F_pairs_of : List R → Pw → FRes := runF 3 1 p_pairs_of
def t_many_unlike_1 : M Bool := fNot (fB (fUser F_is_ahead (fCons (fVar 1) (fCons (fOp (lift2 ixO) (fVar 2) (fC (.int 0))) (fCons (fOp (lift2 ixO) (fVar 2) (fC (.int 1))) fNil)))))
def e_many_unlike_2 : M R := fVar 2
abbrev l_many_unlike_2 : M R := fLc (fLstI (fUser F_pairs_of (fCons (fVar 0) fNil))) (bName 2) (t_many_unlike_1) (e_many_unlike_2) [2]
def p_many_unlike : DSt → Flow := fRet (fCall lenO (pCons (fLc (fLstI (fUser F_pairs_of (fCons (fVar 0) fNil))) (bName 2) (t_many_unlike_1) (e_many_unlike_2) [2]) fNil))
def F_many_unlike : List R → Pw → FRes := runF 3 2 p_many_unlike
def b_must_be_alike_named_1 : DSt → Flow := fDrop (fUser F_must_be_ranking (fCons (fVar 1) fNil))
abbrev o_must_be_alike_named_1 : List PyData → DSt → Flow := loopF (bName 1) b_must_be_alike_named_1
def e_must_be_alike_named_2 : M R := fOp (lift2 eqO) (fCall sortedO (pCons (fVar 1) fNil)) (fCall sortedO (pCons (fOp (lift2 ixO) (fVar 0) (fC (.int 0))) fNil))
abbrev l_must_be_alike_named_2 : M R := fLc (fLstI (fVar 0)) (bName 1) fYes (e_must_be_alike_named_2) [1]
def p_must_be_alike_named : DSt → Flow := fseq (fFor (fLstI (fVar 0)) (bName 1) b_must_be_alike_named_1) (fIfS (fNot (fB (fCall allO (pCons (fLc (fLstI (fVar 0)) (bName 1) fYes (e_must_be_alike_named_2) [1]) fNil)))) (fRaise "NoFit") fnext)
def F_must_be_alike_named : List R → Pw → FRes := runF 2 1 p_must_be_alike_named
def p_unlike : DSt → Flow := fseq (fDrop (fUser F_must_be_alike_named (fCons (fLst (fCons (fVar 0) (fCons (fVar 1) fNil))) fNil))) (fRet (fUser F_many_unlike (fCons (fVar 0) (fCons (fVar 1) fNil))))
def F_unlike : List R → Pw → FRes := runF 2 2 p_unlike
def Rank (ns : List Int) : Prop := ns.Nodup ∧ (∀ x ∈ ns, 0 ≤ x) ∧ 0 < ns.length ∧ ns.length ≤ 10
theorem Rank.perm {ns ms : List Int} (h : Rank ns) (p : ms.Perm ns) : Rank ms := ⟨p.nodup_iff.mpr h.1, fun x hx => h.2.1 x (p.mem_iff.mp hx), by rw [p.length_eq]; exact h.2.2.1, by rw [p.length_eq]; exact h.2.2.2⟩
@[simp] theorem is_number_int {n : Int} {w : Pw} : F_is_number [.val (.int n)] w = .ok (.val (.bool true)) w := by
  unfold F_is_number p_is_number
  simp -implicitDefEqProofs [x_runF]
theorem unlike_names_ok {ns : List Int} {w : Pw} (h1 : ns.Nodup) (h2 : ∀ x ∈ ns, 0 ≤ x) (hl : ns.length ≤ 4000) : F_are_unlike_names [.val (.list (ns.map .int))] w = .ok (.val (.bool true)) w := by
  have e : fLc (fLstI (fVar 0)) (bName 1) fYes e_are_unlike_names_1 [1] ⟨[.val (.list (ns.map .int)), .no], w⟩ = .ok (.new (ns.map fun x => .bool (decide (0 ≤ x)))) ⟨[.val (.list (ns.map .int)), .no], w⟩ := by
    refine lc_all (fun a : Int => ⟨[.val (.list (ns.map .int)), .val (.int a)], w⟩) _ (f := .int) (l := ns) (by simp -implicitDefEqProofs) (by omega) rfl (fun a _ => by rfl) (fun a _ => by rfl) (fun a _ => ?_)
    unfold e_are_unlike_names_1
    simp -implicitDefEqProofs
  have e2 : (ns.map fun x : Int => decide (0 ≤ x)).all id = true := by
    simpa using h2
  have e3 : ns.length ≤ 4000 := hl
  have e4 := nub_len h1
  unfold F_are_unlike_names p_are_unlike_names
  simp only [x_runF]
  simp -implicitDefEqProofs [e, boolsD_map', e2, e3, e4]
theorem is_ranking_ok {ns : List Int} {w : Pw} (h : Rank ns) : F_is_ranking [.val (.list (ns.map .int))] w = .ok (.val (.bool true)) w := by
  obtain ⟨h1, h2, h3, h4⟩ := h
  unfold F_is_ranking p_is_ranking
  simp only [x_runF]
  have h4' : (ns.length : Int) ≤ 10 := by omega
  simp -implicitDefEqProofs [unlike_names_ok h1 h2 (by omega), h3, h4']
/-! ### pairs of places -/
def places (n : Nat) : List (Nat × Nat) := (List.range n).flatMap fun k => (List.range (n - (k + 1))).map fun j => (k, k + 1 + j)
def plD (p : Nat × Nat) : PyData := .tuple [.int (p.1 : Int), .int (p.2 : Int)]
def pairsI (ns : List Int) : List (Int × Int) := (places ns.length).map fun p => (ns.getD p.1 0, ns.getD p.2 0)
def prD (p : Int × Int) : PyData := .tuple [.int p.1, .int p.2]
def manyI (one other : List Int) : Nat := ((pairsI one).filter fun p => !decide (other.idxOf p.1 < other.idxOf p.2)).length
theorem sortI_perm_eq {a b : List Int} (h : a.Perm b) : sortI a = sortI b := sortI_eq ((sortI_perm a).trans h) (sortI_le a)
end DL

noncomputable section
namespace DL
open PySem L2
def p_law_many : DSt → Flow := fRet (fOp (lift2 addO) (fC (.int 1)) (fUser F_law_draw (fCons (fVar 0) (fCons (fOp (lift2 ixO) (fLst (fCons (fC (.int 4)) (fCons (fC (.int 7)) (fCons (fC (.int 10)) fNil)))) (fUser F_law_draw (fCons (fVar 0) (fCons (fC (.int 3)) fNil)))) fNil))))
def F_law_many : List R → Pw → FRes := runF 1 1 p_law_many
def cntP (one other : List Int) (a b : Int) : Bool := decide (one.idxOf a < one.idxOf b ∧ other.idxOf b < other.idxOf a)
def cnt2 (one other : List Int) (a : Int) : Nat := (one.filter (cntP one other a)).length
theorem nodup_idx {ns : List Int} (h : ns.Nodup) {i : Nat} (hi : i < ns.length) : ns.idxOf (ns.getD i 0) = i := by
  have e : ns.getD i 0 = ns[i] := by simp [List.getD_eq_getElem?_getD, List.getElem?_eq_getElem hi]
  rw [e]
  exact h.idxOf_getElem i hi
/-! ### twofold sums -/
def dbl (l : List Int) (f : Int → Int → Nat) : Nat := (l.map fun x => (l.map (f x)).sum).sum
def ah (r : List Int) (x y : Int) : Bool := decide (r.idxOf x < r.idxOf y)
theorem idx_inj {r : List Int} {x y : Int} (hx : x ∈ r) (hy : y ∈ r) (h : r.idxOf x = r.idxOf y) : x = y := by
  have e4 := List.getElem_idxOf (List.idxOf_lt_length_iff.mpr hx)
  have e5 := List.getElem_idxOf (List.idxOf_lt_length_iff.mpr hy)
  rw [← e4, ← e5]
  congr 1
def uq (a b : List Int) (x y : Int) : Nat := if ah a x y = ah b x y then 0 else 1
end DL

noncomputable section
namespace DL
open PySem L2

/-! ### falling along a line: the plain law -/
def cvx (L Q : List Int) : Prop := ∀ u ∈ Q, ∀ v ∈ Q, ∀ t ∈ L, L.idxOf u < L.idxOf t → L.idxOf t < L.idxOf v → t ∈ Q
def noV (L r : List Int) : Prop := ∀ u ∈ L, ∀ t ∈ L, ∀ v ∈ L, L.idxOf u < L.idxOf t → L.idxOf t < L.idxOf v → ¬ (r.idxOf u < r.idxOf t ∧ r.idxOf v < r.idxOf t)
theorem mem_take_idx {r : List Int} {t : Int} {m : Nat} : t ∈ r.take m ↔ t ∈ r ∧ r.idxOf t < m := by
  induction r generalizing m with
  | nil => simp
  | cons a r ih =>
    cases m with
    | zero => simp
    | succ m =>
      rw [List.take_succ_cons, List.mem_cons, List.mem_cons, ih, List.idxOf_cons]
      by_cases h : t = a
      · subst h
        simp
      · have : (a == t) = false := by simpa using fun e => h e.symm
        rw [this]
        simp [h]
theorem noV_cvx {L r : List Int} (hp : L.Perm r) : noV L r ↔ ∀ m, cvx L (r.take m) := by
  constructor
  · intro h m u hu v hv t ht h1 h2
    rw [mem_take_idx] at hu hv ⊢
    refine ⟨hp.mem_iff.mp ht, ?_⟩
    have := h u (hp.mem_iff.mpr hu.1) t ht v (hp.mem_iff.mpr hv.1) h1 h2
    omega
  · intro h u hu t ht v hv h1 h2 h3
    have hc := h (max (r.idxOf u) (r.idxOf v) + 1) u (mem_take_idx.mpr ⟨hp.mem_iff.mp hu, by omega⟩) v (mem_take_idx.mpr ⟨hp.mem_iff.mp hv, by omega⟩) t ht h1 h2
    have := (mem_take_idx.mp hc).2
    omega
def goB (ok : List Int → Int → Bool) : List Int → List Int → Bool
  | _, [] => true
  | Q, a :: l => ok Q a && goB ok (Q ++ [a]) l
theorem goB_cvx {L : List Int} {ok : List Int → Int → Bool} : ∀ (l Q : List Int), (∀ (Q : List Int) (a : Int), Q ≠ [] → (Q ++ [a]).Nodup → (∀ x ∈ Q ++ [a], x ∈ L) → cvx L Q → (ok Q a = true ↔ cvx L (Q ++ [a]))) → Q ≠ [] → (Q ++ l).Nodup → (∀ x ∈ Q ++ l, x ∈ L) → cvx L Q → (goB ok Q l = true ↔ ∀ m, cvx L (Q ++ l.take m))
  | [], Q, _, _, _, _, hc => by simp [goB, hc]
  | a :: l, Q, h, h0, hn, hm, hc => by
    have e : Q ++ a :: l = (Q ++ [a]) ++ l := by simp
    have hn1 : (Q ++ [a]).Nodup := by
      rw [e] at hn
      exact (List.nodup_append.mp hn).1
    have hm1 : ∀ x ∈ Q ++ [a], x ∈ L := fun x hx => hm x (by rw [e]; exact List.mem_append_left _ hx)
    have k := h Q a h0 hn1 hm1 hc
    unfold goB
    rw [Bool.and_eq_true, k]
    constructor
    · rintro ⟨c1, c2⟩ m
      cases m with
      | zero => simpa using hc
      | succ m =>
        have := (goB_cvx l (Q ++ [a]) h (by simp) (by rw [← e]; exact hn) (by rw [← e]; exact hm) c1).mp c2 m
        simpa using this
    · intro c
      have c1 : cvx L (Q ++ [a]) := by simpa using c 1
      refine ⟨c1, (goB_cvx l (Q ++ [a]) h (by simp) (by rw [← e]; exact hn) (by rw [← e]; exact hm) c1).mpr fun m => ?_⟩
      simpa using c (m + 1)
/-! least and greatest places -/
def plI (L : List Int) (x : Int) : Int := (L.idxOf x : Nat)
theorem maxI_facts {l : List Int} (h : l ≠ []) : (∀ y ∈ l, y ≤ maxI l) ∧ maxI l ∈ l := by
  match l, h with
  | n :: ns, _ =>
    obtain ⟨h1, h2, h3⟩ := foldl_max_ge ns n
    refine ⟨fun y hy => ?_, ?_⟩
    · rcases List.mem_cons.mp hy with rfl | hy
      · exact h1
      · exact h2 y hy
    · rcases h3 with h3 | h3
      · show ns.foldl max n ∈ _
        rw [h3]
        exact List.mem_cons_self
      · exact List.mem_cons_of_mem _ h3
theorem minI_facts {l : List Int} (h : l ≠ []) : (∀ y ∈ l, minI l ≤ y) ∧ minI l ∈ l := by
  match l, h with
  | n :: ns, _ =>
    obtain ⟨h1, h2, h3⟩ := foldl_min_le ns n
    refine ⟨fun y hy => ?_, ?_⟩
    · rcases List.mem_cons.mp hy with rfl | hy
      · exact h1
      · exact h2 y hy
    · rcases h3 with h3 | h3
      · show ns.foldl min n ∈ _
        rw [h3]
        exact List.mem_cons_self
      · exact List.mem_cons_of_mem _ h3
theorem maxI_snoc {l : List Int} {p : Int} (h : l ≠ []) : maxI (l ++ [p]) = max (maxI l) p := by
  match l, h with
  | n :: ns, _ =>
    show (ns ++ [p]).foldl max n = _
    rw [List.foldl_append]
    rfl
theorem minI_snoc {l : List Int} {p : Int} (h : l ≠ []) : minI (l ++ [p]) = min (minI l) p := by
  match l, h with
  | n :: ns, _ =>
    show (ns ++ [p]).foldl min n = _
    rw [List.foldl_append]
    rfl
theorem at_place {L : List Int} (hL : L.Nodup) {k : Int} (h0 : 0 ≤ k) (h1 : k < L.length) : ∃ t ∈ L, plI L t = k := by
  have hk : k.toNat < L.length := by omega
  refine ⟨L.getD k.toNat 0, ?_, ?_⟩
  · simp only [List.getD_eq_getElem?_getD, List.getElem?_eq_getElem hk]
    exact List.getElem_mem _
  · unfold plI
    rw [nodup_idx hL hk]
    omega
theorem pl_lt {L : List Int} {x : Int} (h : x ∈ L) : 0 ≤ plI L x ∧ plI L x < L.length := by
  have := List.idxOf_lt_length_iff.mpr h
  unfold plI
  omega
theorem pl_inj {L : List Int} {x y : Int} (hx : x ∈ L) (hy : y ∈ L) (h : plI L x = plI L y) : x = y := idx_inj hx hy (by unfold plI at h; omega)
theorem stretch {L Q : List Int} (h0 : Q ≠ []) (hm : ∀ x ∈ Q, x ∈ L) (hc : cvx L Q) {t : Int} (ht : t ∈ L) : t ∈ Q ↔ minI (Q.map (plI L)) ≤ plI L t ∧ plI L t ≤ maxI (Q.map (plI L)) := by
  have hne : Q.map (plI L) ≠ [] := by simpa using h0
  obtain ⟨a1, a2⟩ := minI_facts hne
  obtain ⟨b1, b2⟩ := maxI_facts hne
  constructor
  · intro h
    have := List.mem_map_of_mem (f := plI L) h
    exact ⟨a1 _ this, b1 _ this⟩
  · rintro ⟨h1, h2⟩
    obtain ⟨u, hu, eu⟩ := List.mem_map.mp a2
    obtain ⟨v, hv, ev⟩ := List.mem_map.mp b2
    by_cases e1 : plI L u = plI L t
    · rw [← pl_inj (hm u hu) ht e1]
      exact hu
    · by_cases e2 : plI L v = plI L t
      · rw [← pl_inj (hm v hv) ht e2]
        exact hv
      · refine hc u hu v hv t ht ?_ ?_ <;> unfold plI at * <;> omega
def ok1 (L : List Int) (Q : List Int) (a : Int) : Bool := decide (plI L a = minI (Q.map (plI L)) - 1) || decide (plI L a = maxI (Q.map (plI L)) + 1)
theorem ok1_cvx {L : List Int} (hL : L.Nodup) (Q : List Int) (a : Int) (h0 : Q ≠ []) (hn : (Q ++ [a]).Nodup) (hm : ∀ x ∈ Q ++ [a], x ∈ L) (hc : cvx L Q) : ok1 L Q a = true ↔ cvx L (Q ++ [a]) := by
  have hmQ : ∀ x ∈ Q, x ∈ L := fun x hx => hm x (List.mem_append_left _ hx)
  have ha : a ∈ L := hm a (by simp)
  have st := fun {t : Int} (ht : t ∈ L) => stretch h0 hmQ hc ht
  have naQ : a ∉ Q := fun h => by
    have := (List.nodup_append.mp hn).2.2 a h a (by simp)
    exact this rfl
  have hne : Q.map (plI L) ≠ [] := by simpa using h0
  obtain ⟨a1, a2⟩ := minI_facts hne
  obtain ⟨b1, b2⟩ := maxI_facts hne
  obtain ⟨u0, hu0, eu0⟩ := List.mem_map.mp a2
  obtain ⟨v0, hv0, ev0⟩ := List.mem_map.mp b2
  have out := fun h => naQ ((st ha).mpr h)
  have lohi : minI (Q.map (plI L)) ≤ maxI (Q.map (plI L)) := b1 _ a2
  obtain ⟨lo, hlo⟩ : ∃ lo, lo = minI (Q.map (plI L)) := ⟨_, rfl⟩
  obtain ⟨hi, hhi⟩ : ∃ hi, hi = maxI (Q.map (plI L)) := ⟨_, rfl⟩
  rw [← hlo, ← hhi] at st out lohi
  rw [← hlo] at eu0
  rw [← hhi] at ev0
  unfold ok1
  rw [← hlo, ← hhi]
  simp only [Bool.or_eq_true, decide_eq_true_eq]
  constructor
  · intro h u hu v hv t ht h1 h2
    rw [List.mem_append, List.mem_singleton] at hu hv ⊢
    have h1' : plI L u < plI L t := by unfold plI; omega
    have h2' : plI L t < plI L v := by unfold plI; omega
    rcases hu with hu | rfl <;> rcases hv with hv | rfl
    · exact .inl (hc u hu v hv t ht h1 h2)
    · have q := (st (hmQ u hu)).mp hu
      left
      rw [st ht]
      omega
    · have q := (st (hmQ v hv)).mp hv
      left
      rw [st ht]
      omega
    · omega
  · intro h
    refine Classical.byContradiction fun hno => ?_
    have pa := pl_lt ha
    have pu := pl_lt (hmQ u0 hu0)
    have pv := pl_lt (hmQ v0 hv0)
    by_cases hl : plI L a < lo
    · obtain ⟨t, ht, et⟩ := at_place hL (k := lo - 1) (by omega) (by omega)
      have := h a (by simp) u0 (List.mem_append_left _ hu0) t ht (by unfold plI at *; omega) (by unfold plI at *; omega)
      rw [List.mem_append, List.mem_singleton] at this
      rcases this with q | rfl
      · have := (st ht).mp q
        omega
      · omega
    · have hgt : hi < plI L a := by
        by_cases z : plI L a ≤ hi
        · exact (out ⟨by omega, z⟩).elim
        · omega
      obtain ⟨t, ht, et⟩ := at_place hL (k := hi + 1) (by omega) (by omega)
      have := h v0 (List.mem_append_left _ hv0) a (by simp) t ht (by unfold plI at *; omega) (by unfold plI at *; omega)
      rw [List.mem_append, List.mem_singleton] at this
      rcases this with q | rfl
      · have := (st ht).mp q
        omega
      · omega
theorem sub_len : ∀ (l m : List Int), l.Nodup → (∀ x ∈ l, x ∈ m) → l.length ≤ m.length
  | [], _, _, _ => by simp
  | a :: l, m, hn, h => by
    have ha := h a List.mem_cons_self
    have hp := (List.perm_cons_erase ha).length_eq
    have := sub_len l (m.erase a) (List.nodup_cons.mp hn).2 fun x hx => by
      have ne : x ≠ a := fun e => (List.nodup_cons.mp hn).1 (e ▸ hx)
      exact (List.mem_erase_of_ne ne).mpr (h x (List.mem_cons_of_mem _ hx))
    simp only [List.length_cons] at hp ⊢
    omega
theorem pigeon : ∀ (l : List Int) (lo : Int) (n : Nat), l.Nodup → (∀ x ∈ l, lo ≤ x ∧ x < lo + n) → l.length ≤ n ∧ (l.length = n → ∀ x, lo ≤ x → x < lo + n → x ∈ l) := by
  intro l lo n
  induction n generalizing l with
  | zero =>
    intro _ h
    cases l with
    | nil => exact ⟨by simp, fun _ x h1 h2 => by omega⟩
    | cons a l => have := h a List.mem_cons_self; omega
  | succ n ih =>
    intro hn h
    by_cases hm : (lo + n) ∈ l
    · have hp := List.perm_cons_erase hm
      have hn2 : (l.erase (lo + n)).Nodup := hn.erase _
      obtain ⟨q1, q2⟩ := ih (l.erase (lo + n)) hn2 fun x hx => by
        have hx1 := List.mem_of_mem_erase hx
        have := h x hx1
        have ne : x ≠ lo + n := fun e => by
          subst e
          exact (hn.not_mem_erase) hx
        omega
      have hl := hp.length_eq
      rw [List.length_cons] at hl
      refine ⟨by omega, fun e x h1 h2 => ?_⟩
      by_cases ex : x = lo + n
      · rw [ex]; exact hm
      · exact List.mem_of_mem_erase (q2 (by omega) x h1 (by omega))
    · obtain ⟨q1, q2⟩ := ih l hn fun x hx => by
        have := h x hx
        have ne : x ≠ lo + n := fun e => hm (e ▸ hx)
        omega
      exact ⟨by omega, fun e => by omega⟩
def ok2 (L : List Int) (Q : List Int) (a : Int) : Bool := decide (maxI ((Q ++ [a]).map (plI L)) - minI ((Q ++ [a]).map (plI L)) = ((Q ++ [a]).length : Int) - 1)
theorem nodup_pl {L Q : List Int} (hn : Q.Nodup) (hm : ∀ x ∈ Q, x ∈ L) : (Q.map (plI L)).Nodup := by
  induction Q with
  | nil => exact List.nodup_nil
  | cons a Q ih =>
    have h := List.nodup_cons.mp hn
    rw [List.map_cons, List.nodup_cons]
    refine ⟨fun hx => ?_, ih h.2 fun x hx => hm x (List.mem_cons_of_mem _ hx)⟩
    obtain ⟨y, hy, e⟩ := List.mem_map.mp hx
    exact h.1 (pl_inj (hm a List.mem_cons_self) (hm y (List.mem_cons_of_mem _ hy)) e.symm ▸ hy)
theorem ok2_cvx {L : List Int} (hL : L.Nodup) (Q : List Int) (a : Int) (hn : (Q ++ [a]).Nodup) (hm : ∀ x ∈ Q ++ [a], x ∈ L) : ok2 L Q a = true ↔ cvx L (Q ++ [a]) := by
  obtain ⟨P, hP⟩ : ∃ P, P = Q ++ [a] := ⟨_, rfl⟩
  unfold ok2
  rw [← hP] at hn hm ⊢
  have h0 : P ≠ [] := by rw [hP]; simp
  have hne : P.map (plI L) ≠ [] := by simpa using h0
  obtain ⟨a1, a2⟩ := minI_facts hne
  obtain ⟨b1, b2⟩ := maxI_facts hne
  have hnd := nodup_pl hn hm
  have lohi : minI (P.map (plI L)) ≤ maxI (P.map (plI L)) := b1 _ a2
  obtain ⟨n, en⟩ : ∃ n : Nat, (n : Int) = maxI (P.map (plI L)) - minI (P.map (plI L)) + 1 := ⟨(maxI (P.map (plI L)) - minI (P.map (plI L)) + 1).toNat, by omega⟩
  obtain ⟨p1, p2⟩ := pigeon (P.map (plI L)) (minI (P.map (plI L))) n hnd fun x hx => by
    have := a1 x hx
    have := b1 x hx
    omega
  rw [List.length_map] at p1 p2
  rw [decide_eq_true_eq]
  constructor
  · intro e u hu v hv t ht h1 h2
    have u1 := a1 _ (List.mem_map_of_mem (f := plI L) hu)
    have v1 := b1 _ (List.mem_map_of_mem (f := plI L) hv)
    have h1' : plI L u < plI L t := by unfold plI; omega
    have h2' : plI L t < plI L v := by unfold plI; omega
    have := p2 (by omega) (plI L t) (by omega) (by omega)
    obtain ⟨y, hy, ey⟩ := List.mem_map.mp this
    rw [← pl_inj (hm y hy) ht ey]
    exact hy
  · intro hc
    have le : n ≤ P.length := by
      have fill : ∀ k : Nat, k < n → minI (P.map (plI L)) + k ∈ P.map (plI L) := fun k hk => by
        obtain ⟨u, hu, eu⟩ := List.mem_map.mp a2
        obtain ⟨v, hv, ev⟩ := List.mem_map.mp b2
        have pu := pl_lt (hm u hu)
        have pv := pl_lt (hm v hv)
        obtain ⟨t, ht, et⟩ := at_place hL (k := minI (P.map (plI L)) + k) (by omega) (by omega)
        rw [← et]
        exact List.mem_map_of_mem ((stretch h0 hm hc ht).mpr (by omega))
      have nd : ((List.range n).map fun k : Nat => minI (P.map (plI L)) + (k : Int)).Nodup := by
        rw [List.nodup_iff_pairwise_ne, List.pairwise_map]
        exact List.nodup_range.imp fun h e => h (by omega)
      have sub : ∀ x ∈ (List.range n).map fun k : Nat => minI (P.map (plI L)) + (k : Int), x ∈ P.map (plI L) := fun x hx => by
        obtain ⟨k, hk, rfl⟩ := List.mem_map.mp hx
        exact fill k (by simpa using hk)
      have := sub_len _ _ nd sub
      simpa using this
    omega

end DL

noncomputable section
namespace DL
open PySem L2
def p_is_line : DSt → Flow := fRet (fUser F_is_ranking (fCons (fVar 0) fNil))
def F_is_line : List R → Pw → FRes := runF 1 1 p_is_line
def p_must_be_line : DSt → Flow := fIfS (fNot (fB (fUser F_is_line (fCons (fVar 0) fNil)))) (fRaise "NoLine") fnext
def F_must_be_line : List R → Pw → FRes := runF 1 1 p_must_be_line
def p_must_be_on : DSt → Flow := fseq (fDrop (fUser F_must_be_line (fCons (fVar 0) fNil))) (fseq (fDrop (fUser F_must_be_ranking (fCons (fVar 1) fNil))) (fIfS (fB (fOp (lift2 neO) (fCall sortedO (pCons (fVar 0) fNil)) (fCall sortedO (pCons (fVar 1) fNil)))) (fRaise "NoFit") fnext))
def F_must_be_on : List R → Pw → FRes := runF 2 2 p_must_be_on
def b_does_fall_1 : DSt → Flow := fseq (fSet 5 (fIndex (fVar 0) (fVar 4))) (fseq (fIfS (fAnd (fB (fOp (lift2 neO) (fVar 5) (fOp (lift2 subO) (fVar 2) (fC (.int 1))))) (fB (fOp (lift2 neO) (fVar 5) (fOp (lift2 addO) (fVar 3) (fC (.int 1)))))) (fRet (fC (.bool false))) fnext) (fseq (fSet 2 (fCall minO (pCons (fVar 2) (pCons (fVar 5) fNil)))) (fSet 3 (fCall maxO (pCons (fVar 3) (pCons (fVar 5) fNil))))))
abbrev o_does_fall_1 : List PyData → DSt → Flow := loopF (bName 4) b_does_fall_1
def p_does_fall : DSt → Flow := fseq (fSet 2 (fIndex (fVar 0) (fOp (lift2 ixO) (fVar 1) (fC (.int 0))))) (fseq (fSet 3 (fVar 2)) (fseq (fFor (fLstI (fSlice (fVar 1) (fPart (fC (.int 1))) fNoPart)) (bName 4) b_does_fall_1) (fRet (fC (.bool true)))))
def F_does_fall : List R → Pw → FRes := runF 6 2 p_does_fall
def p_falls : DSt → Flow := fseq (fDrop (fUser F_must_be_on (fCons (fVar 0) (fCons (fVar 1) fNil)))) (fRet (fUser F_does_fall (fCons (fVar 0) (fCons (fVar 1) fNil))))
def F_falls : List R → Pw → FRes := runF 2 2 p_falls
def b_law_falls_1 : DSt → Flow := fseq (fDrop (fApp 2 (fIndex (fVar 0) (fVar 3)))) (fIfS (fB (fOp (lift2 neO) (fOp (lift2 subO) (fCall maxO (pCons (fVar 2) fNil)) (fCall minO (pCons (fVar 2) fNil))) (fOp (lift2 subO) (fCall lenO (pCons (fVar 2) fNil)) (fC (.int 1))))) (fRet (fC (.bool false))) fnext)
abbrev o_law_falls_1 : List PyData → DSt → Flow := loopF (bName 3) b_law_falls_1
def p_law_falls : DSt → Flow := fseq (fSet 2 (fLst fNil)) (fseq (fFor (fLstI (fVar 1)) (bName 3) b_law_falls_1) (fRet (fC (.bool true))))
def F_law_falls : List R → Pw → FRes := runF 4 2 p_law_falls
def c_law_falling_1 : M Bool := fB (fOp (lift2 neO) (fVar 2) (fLst fNil))
def b_law_falling_2 : DSt → Flow := fDrop (fApp 3 (fPopAt 2 (fOp (lift2 mulO) (fOp (lift2 subO) (fCall lenO (pCons (fVar 2) fNil)) (fC (.int 1))) (fUser F_law_draw (fCons (fVar 0) (fCons (fC (.int 2)) fNil))))))
abbrev o_law_falling_2 : DSt → Flow := whileF c_law_falling_1 b_law_falling_2 10000
def p_law_falling : DSt → Flow := fseq (fSet 2 (fCall listO (pCons (fVar 1) fNil))) (fseq (fSet 3 (fLst fNil)) (fseq (whileF c_law_falling_1 b_law_falling_2 10000) (fRet (fUn (lift1 revO) (fVar 3)))))
def F_law_falling : List R → Pw → FRes := runF 4 2 p_law_falling
theorem must_line_ok {ns : List Int} {w : Pw} (h : Rank ns) : F_must_be_line [.val (.list (ns.map .int))] w = .ok (.val .none) w := by
  have e : F_is_line [.val (.list (ns.map .int))] w = .ok (.val (.bool true)) w := by
    unfold F_is_line p_is_line
    simp only [x_runF]
    simp -implicitDefEqProofs [is_ranking_ok h]
  unfold F_must_be_line p_must_be_line
  simp only [x_runF]
  simp -implicitDefEqProofs [e]
theorem goB_foldS {β : Type} {ok : List Int → Int → Bool} {step : β → Int → Sum β R} {st : List Int → β} {r : R} : ∀ (l Q : List Int), (∀ Q a, Q ≠ [] → step (st Q) a = if ok Q a = true then .inl (st (Q ++ [a])) else .inr r) → Q ≠ [] → foldS step (st Q) l = if goB ok Q l = true then .inl (st (Q ++ l)) else .inr r
  | [], Q, _, _ => by simp [foldS, goB]
  | a :: l, Q, h, h0 => by
    have ih := goB_foldS l (Q ++ [a]) h (by simp)
    unfold foldS goB
    rw [h Q a h0]
    cases k : ok Q a with
    | true =>
      simp only [if_true, Bool.true_and]
      rw [ih]
      simp
    | false => simp
def fallB (L r : List Int) : Bool := @decide (noV L r) (Classical.propDecidable _)
theorem fallB_iff {L r : List Int} : fallB L r = true ↔ noV L r := by unfold fallB; simp
theorem cvx_one {L : List Int} {x : Int} : cvx L [x] := by
  intro u hu v hv t ht h1 h2
  simp at hu hv
  subst hu hv
  omega
theorem goB_fall {L r : List Int} {x : Int} {l : List Int} {ok : List Int → Int → Bool} (hL : L.Nodup) (hp : r.Perm L) (hr : r = x :: l) (h : ∀ (Q : List Int) (a : Int), Q ≠ [] → (Q ++ [a]).Nodup → (∀ x ∈ Q ++ [a], x ∈ L) → cvx L Q → (ok Q a = true ↔ cvx L (Q ++ [a]))) : goB ok [x] l = fallB L r := by
  rw [Bool.eq_iff_iff, fallB_iff, noV_cvx hp.symm, hr]
  have hn : ([x] ++ l).Nodup := by
    have := hp.nodup_iff.mpr hL
    rw [hr] at this
    exact this
  have hm : ∀ y ∈ [x] ++ l, y ∈ L := fun y hy => hp.mem_iff.mp (by rw [hr]; exact hy)
  rw [goB_cvx l [x] h (by simp) hn hm cvx_one]
  constructor
  · intro k m
    cases m with
    | zero =>
      intro u hu
      simp at hu
    | succ m => simpa using k m
  · intro k m
    simpa using k (m + 1)
theorem does_fall_ok {L r : List Int} {w : Pw} (hL : Rank L) (hp : r.Perm L) : F_does_fall [.val (.list (L.map .int)), .val (.list (r.map .int))] w = .ok (.val (.bool (fallB L r))) w := by
  obtain ⟨x, l, hr⟩ : ∃ x l, r = x :: l := by
    cases r with
    | nil => have := hp.length_eq; have := hL.2.2.1; simp at *; omega
    | cons x l => exact ⟨x, l, rfl⟩
  have hx : x ∈ L := hp.mem_iff.mp (by rw [hr]; simp)
  have hl : ∀ y ∈ l, y ∈ L := fun y hy => hp.mem_iff.mp (by rw [hr]; exact List.mem_cons_of_mem _ hy)
  have key := loopS (b := bName 4) (p := b_does_fall_1) (f := .int) (l := l) (s := ⟨[.val (.list (L.map .int)), .val (.list (r.map .int)), .val (.int (plI L x)), .val (.int (plI L x)), .no, .no], w⟩) (x := (plI L x, plI L x))
    (fun (s : Int × Int) a => if (decide (plI L a = s.1 - 1) || decide (plI L a = s.2 + 1)) = true then .inl (min s.1 (plI L a), max s.2 (plI L a)) else .inr (.val (.bool false)))
    (fun z s => ∃ v4 v5, s = ⟨[.val (.list (L.map .int)), .val (.list (r.map .int)), .val (.int z.1), .val (.int z.2), v4, v5], w⟩) (fun _ s => s.w = w) ⟨_, _, rfl⟩ (by
      rintro a ha ⟨lo, hi⟩ s ⟨v4, v5, rfl⟩
      have hi' := idxO_mem (hl a ha)
      unfold b_does_fall_1
      by_cases h1 : plI L a = lo - 1
      · have e1 : ((L.idxOf a : Nat) : Int) = lo - 1 := h1
        refine ⟨fun y e => ?_, fun q e => ?_⟩
        · simp [h1] at e
          subst e
          simp -implicitDefEqProofs [hi', e1]
          constructor <;> split <;> omega
        · simp [h1] at e
      · by_cases h2 : plI L a = hi + 1
        · have e2 : ((L.idxOf a : Nat) : Int) = hi + 1 := h2
          refine ⟨fun y e => ?_, fun q e => ?_⟩
          · simp [h2] at e
            subst e
            simp -implicitDefEqProofs [hi', e2]
            constructor <;> split <;> omega
          · simp [h2] at e
        · have e1 : ¬ ((L.idxOf a : Nat) : Int) = lo - 1 := h1
          have e2 : ¬ ((L.idxOf a : Nat) : Int) = hi + 1 := h2
          refine ⟨fun y e => ?_, fun q e => ?_⟩
          · simp [h1, h2] at e
          · simp [h1, h2] at e
            subst e
            simp -implicitDefEqProofs [hi', e1, e2])
  have ef : foldS _ (plI L x, plI L x) l = _ := goB_foldS (ok := ok1 L) (st := fun Q => (minI (Q.map (plI L)), maxI (Q.map (plI L)))) (r := .val (.bool false)) (step := fun (s : Int × Int) a => if (decide (plI L a = s.1 - 1) || decide (plI L a = s.2 + 1)) = true then .inl (min s.1 (plI L a), max s.2 (plI L a)) else .inr (.val (.bool false))) l [x] (fun Q a h0 => by
    have hne : Q.map (plI L) ≠ [] := by simpa using h0
    simp only [List.map_append, List.map_cons, List.map_nil, minI_snoc hne, maxI_snoc hne]
    rfl) (by simp)
  rw [goB_fall hL.1 hp hr fun Q a h0 hn hm hc => ok1_cvx hL.1 Q a h0 hn hm hc] at ef
  rw [ef] at key
  have ix := idxO_mem hx
  have at0 : atI (r.map PyData.int) 0 = some (.int x) := by rw [hr]; simp
  have cu : cutI r (some 1) none = l := by
    rw [hr]
    exact cut_from (k := 1)
  unfold F_does_fall p_does_fall
  simp only [x_runF]
  cases k : fallB L r with
  | true =>
    obtain ⟨s', e, v4, v5, rfl⟩ := key.1 _ (by rw [k]; rfl)
    have e' : loopF (bName 4) b_does_fall_1 (l.map .int) ⟨[.val (.list (L.map .int)), .val (.list (r.map .int)), .val (.int ((L.idxOf x : Nat) : Int)), .val (.int ((L.idxOf x : Nat) : Int)), .no, .no], w⟩ = _ := e
    simp -implicitDefEqProofs [at0, -atI_0, ix, cutD_map, cu, e']
  | false =>
    obtain ⟨s', e, hw⟩ := key.2 _ (by rw [k]; rfl)
    have e' : loopF (bName 4) b_does_fall_1 (l.map .int) ⟨[.val (.list (L.map .int)), .val (.list (r.map .int)), .val (.int ((L.idxOf x : Nat) : Int)), .val (.int ((L.idxOf x : Nat) : Int)), .no, .no], w⟩ = _ := e
    simp -implicitDefEqProofs [at0, -atI_0, ix, cutD_map, cu, e', hw]
theorem law_falls_ok {L r : List Int} {w : Pw} (hL : Rank L) (hp : r.Perm L) : F_law_falls [.val (.list (L.map .int)), .val (.list (r.map .int))] w = .ok (.val (.bool (fallB L r))) w := by
  obtain ⟨x, l, hr⟩ : ∃ x l, r = x :: l := by
    cases r with
    | nil => have := hp.length_eq; have := hL.2.2.1; simp at *; omega
    | cons x l => exact ⟨x, l, rfl⟩
  have rl : r.length ≤ 10 := by rw [hp.length_eq]; exact hL.2.2.2
  have rm : ∀ y ∈ r, y ∈ L := fun y hy => hp.mem_iff.mp hy
  have key := loopSi (b := bName 3) (p := b_law_falls_1) (f := .int) (l := r) (s := ⟨[.val (.list (L.map .int)), .val (.list (r.map .int)), .own [], .no], w⟩) (x := ([] : List Int)) (fun Q a => if ok2 L Q a = true then .inl (Q ++ [a]) else .inr (.val (.bool false)))
    (fun i Q s => Q.length = i ∧ ∃ v3, s = ⟨[.val (.list (L.map .int)), .val (.list (r.map .int)), .own ((Q.map (plI L)).map .int), v3], w⟩) (fun _ s => s.w = w) ⟨rfl, _, rfl⟩ (by
      rintro i a hi ha Q s ⟨rfl, v3, rfl⟩
      have hir : Q.length < r.length := (List.getElem?_eq_some_iff.mp hi).1
      have ix := idxO_mem (rm a ha)
      have hlt : ltS Q.length := size_lt (by omega)
      have em : (Q.map (plI L)).map PyData.int ++ [PyData.int ((L.idxOf a : Nat) : Int)] = ((Q ++ [a]).map (plI L)).map .int := by simp [plI]
      obtain ⟨P, hP⟩ : ∃ P, P = (Q ++ [a]).map (plI L) := ⟨_, rfl⟩
      have hP0 : P ≠ [] := by rw [hP]; simp
      have hPl : P.length = Q.length + 1 := by rw [hP]; simp
      have mx := max_ints hP0
      have mn := min_ints hP0
      rw [← hP] at em
      have e2 : ok2 L Q a = decide (maxI P - minI P = (P.length : Int) - 1) := by
        unfold ok2
        rw [← hP, hPl]
        simp
      rw [e2]
      unfold b_law_falls_1
      by_cases h1 : maxI P - minI P = (P.length : Int) - 1
      · refine ⟨fun y e => ?_, fun q e => ?_⟩
        · simp [h1] at e
          subst e
          simp -implicitDefEqProofs [ix, hlt, em, -List.map_map, mx, mn, h1, -List.map_append]
          rw [hP]
        · simp [h1] at e
      · refine ⟨fun y e => ?_, fun q e => ?_⟩
        · simp [h1] at e
        · simp [h1] at e
          subst e
          simp -implicitDefEqProofs [ix, hlt, em, -List.map_map, mx, mn, h1])
  have e1 : foldS (fun (Q : List Int) a => if ok2 L Q a = true then Sum.inl (Q ++ [a]) else Sum.inr (R.val (.bool false))) [] r = if fallB L r = true then .inl r else .inr (.val (.bool false)) := by
    have h1 : ok2 L [] x = true := by
      rw [ok2_cvx hL.1 [] x (by simp) (fun y hy => by simp at hy; subst hy; exact rm y (by rw [hr]; simp))]
      exact cvx_one
    have ef := goB_foldS (ok := ok2 L) (st := fun Q => Q) (r := .val (.bool false)) (step := fun (Q : List Int) a => if ok2 L Q a = true then .inl (Q ++ [a]) else .inr (.val (.bool false))) l [x] (fun Q a _ => rfl) (by simp)
    rw [goB_fall hL.1 hp hr fun Q a h0 hn hm hc => ok2_cvx hL.1 Q a hn hm] at ef
    rw [hr]
    conv => lhs; unfold foldS
    simp only [h1, if_true, List.nil_append]
    rw [← hr]
    rw [ef, hr]
    rfl
  rw [e1] at key
  unfold F_law_falls p_law_falls
  simp only [x_runF]
  cases k : fallB L r with
  | true =>
    obtain ⟨s', e, _, v3, rfl⟩ := key.1 _ (by rw [k]; rfl)
    simp -implicitDefEqProofs [e]
  | false =>
    obtain ⟨s', e, hw⟩ := key.2 _ (by rw [k]; rfl)
    simp -implicitDefEqProofs [e, hw]

end DL

noncomputable section
namespace DL
open PySem L2

/-! rankings that fall, taken from the ends -/
def pick : List Int → List Bool → List Int
  | L, [] => L
  | L, b :: bs => match b with
    | false => L.take 1 ++ pick (L.drop 1) bs
    | true => L.drop (L.length - 1) ++ pick L.dropLast bs
theorem snoc_of {α : Type} (L : List α) : L = [] ∨ ∃ K z, L = K ++ [z] := by
  rcases List.eq_nil_or_concat L with h | ⟨K, z, h⟩
  · exact .inl h
  · exact .inr ⟨K, z, by rw [h, List.concat_eq_append]⟩
theorem pick_nil {L : List Int} : pick L [] = L := rfl
theorem pick_false {a : Int} {L : List Int} {bs : List Bool} : pick (a :: L) (false :: bs) = a :: pick L bs := rfl
theorem pick_true {z : Int} {L : List Int} {bs : List Bool} : pick (L ++ [z]) (true :: bs) = z :: pick L bs := by
  show (L ++ [z]).drop ((L ++ [z]).length - 1) ++ pick (L ++ [z]).dropLast bs = _
  rw [List.dropLast_concat]
  simp
theorem pick_perm : ∀ (bs : List Bool) (L : List Int), (pick L bs).Perm L
  | [], L => .refl _
  | false :: bs, L => by
    show (L.take 1 ++ pick (L.drop 1) bs).Perm L
    have := (pick_perm bs (L.drop 1)).append_left (L.take 1)
    rwa [List.take_append_drop] at this
  | true :: bs, L => by
    show (L.drop (L.length - 1) ++ pick L.dropLast bs).Perm L
    have h1 := (pick_perm bs L.dropLast).append_left (L.drop (L.length - 1))
    refine h1.trans (List.perm_append_comm.trans ?_)
    rw [List.dropLast_eq_take, List.take_append_drop]
/-! bits and numbers -/
def valA : Nat → List Bool → Nat
  | c, [] => c
  | c, b :: bs => valA (2 * c + b.toNat) bs
def bitsN : Nat → Nat → List Bool
  | 0, _ => []
  | k + 1, n => decide (2 ^ k ≤ n) :: bitsN k (n % 2 ^ k)
end DL

noncomputable section
namespace DL
open PySem L2
def b_number_on_1 : DSt → Flow := fseq (fSet 3 (fOp (lift2 addO) (fOp (lift2 mulO) (fC (.int 2)) (fVar 3)) (fCall intO (pCons (fOp (lift2 eqO) (fVar 4) (fOp (lift2 ixO) (fVar 2) (fUn (lift1 negO) (fC (.int 1))))) fNil)))) (fDrop (fRem 2 (fVar 4)))
abbrev o_number_on_1 : List PyData → DSt → Flow := loopF (bName 4) b_number_on_1
def p_number_on : DSt → Flow := fseq (fDrop (fUser F_must_be_on (fCons (fVar 0) (fCons (fVar 1) fNil)))) (fseq (fIfS (fNot (fB (fUser F_does_fall (fCons (fVar 0) (fCons (fVar 1) fNil))))) (fRaise "NoFit") fnext) (fseq (fSet 2 (fCall listO (pCons (fVar 0) fNil))) (fseq (fSet 3 (fC (.int 0))) (fseq (fFor (fLstI (fUn (lift1 revToO) (fVar 1))) (bName 4) b_number_on_1) (fRet (fVar 3))))))
def F_number_on : List R → Pw → FRes := runF 5 2 p_number_on
def b_ranking_on_1 : DSt → Flow := fSet 2 (fOp (lift2 mulO) (fC (.int 2)) (fVar 2))
abbrev o_ranking_on_1 : List PyData → DSt → Flow := loopF (bName 3) b_ranking_on_1
def c_ranking_on_2 : M Bool := fB (fOp (lift2 gtO) (fCall lenO (pCons (fVar 4) fNil)) (fC (.int 1)))
def b_ranking_on_3 : DSt → Flow := fseq (fSet 2 (fOp (lift2 fdivO) (fVar 2) (fC (.int 2)))) (fseq (fDrop (fApp 5 (fPopAt 4 (fOp (lift2 ixO) (fLst (fCons (fC (.int 0)) (fCons (fUn (lift1 negO) (fC (.int 1))) fNil))) (fOp (lift2 fdivO) (fVar 1) (fVar 2)))))) (fSet 1 (fOp (lift2 modO) (fVar 1) (fVar 2))))
abbrev o_ranking_on_3 : DSt → Flow := whileF c_ranking_on_2 b_ranking_on_3 10000
def p_ranking_on : DSt → Flow := fseq (fDrop (fUser F_must_be_line (fCons (fVar 0) fNil))) (fseq (fSet 2 (fC (.int 1))) (fseq (fFor (fLstI (fSlice (fVar 0) (fPart (fC (.int 1))) fNoPart)) (bName 3) b_ranking_on_1) (fseq (fIfS (fOr (fB (fOp (lift2 ltO) (fVar 1) (fC (.int 0)))) (fB (fOp (lift2 geO) (fVar 1) (fVar 2)))) (fRaise "NoNumber") fnext) (fseq (fSet 4 (fCall listO (pCons (fVar 0) fNil))) (fseq (fSet 5 (fLst fNil)) (fseq (whileF c_ranking_on_2 b_ranking_on_3 10000) (fRet (fUn (lift1 revO) (fOp (lift2 addO) (fVar 5) (fVar 4))))))))))
def F_ranking_on : List R → Pw → FRes := runF 6 2 p_ranking_on
theorem ix_0 {n : Nat} (h : 0 < n) : ixN n 0 = some 0 := by
  unfold ixN
  rw [if_pos (by omega), if_pos (by omega)]
  rfl
theorem ix_m1 {n : Nat} (h : 0 < n) : ixN n (-1) = some (n - 1) := by
  unfold ixN
  rw [if_neg (by omega), if_pos (by omega)]
  congr 1
  omega
def pw2 (k : Nat) : Nat := 2 ^ k
theorem eraseIdx_last {l : List PyData} {z : PyData} {n : Nat} (h : n = l.length) : (l ++ [z]).eraseIdx n = l := by
  subst h
  rw [List.eraseIdx_append_of_length_le (by simp)]
  simp
theorem loop_cons {b : Bd} {p : DSt → Flow} {d : PyData} {ds : List PyData} {s s2 : DSt} (h : bod b p d s = .next s2) : loopF b p (d :: ds) s = loopF b p ds s2 := by
  conv => lhs; unfold loopF
  unfold bod at h
  split at h
  · rename_i s1 e
    rw [e]
    dsimp only
    rw [h]
  · cases h
end DL

noncomputable section
namespace DL
open PySem L2
def p_law_whole : DSt → Flow := fRet (fAndV (fIsi "int" (fVar 0)) (fV (fNot (fB (fIsi "bool" (fVar 0))))))
def F_law_whole : List R → Pw → FRes := runF 1 1 p_law_whole
def b_law_draws_1 : DSt → Flow := fIfS (fB (fVar 4)) (fseq (fDrop (fApp 6 (fOp (lift2 modO) (fVar 3) (fOp (lift2 powO) (fC (.int 10)) (fC (.int 9)))))) (fSet 3 (fOp (lift2 fdivO) (fVar 3) (fOp (lift2 powO) (fC (.int 10)) (fC (.int 9)))))) (fseq (fSet 8 (fOp (lift2 modO) (fOp (lift2 addO) (fVar 5) (fOp (lift2 mulO) (fC (.int 48271)) (fOp (lift2 addO) (fVar 7) (fC (.int 1))))) (fC (.int 2147483629)))) (fseq (fSet 8 (fOp (lift2 modO) (fOp (lift2 addO) (fOp (lift2 mulO) (fVar 8) (fVar 8)) (fVar 7)) (fC (.int 2147483629)))) (fDrop (fApp 6 (fOp (lift2 modO) (fOp (lift2 modO) (fOp (lift2 mulO) (fVar 8) (fVar 8)) (fC (.int 2147483587))) (fOp (lift2 powO) (fC (.int 10)) (fC (.int 9))))))))
abbrev o_law_draws_1 : List PyData → DSt → Flow := loopF (bName 7) b_law_draws_1
def p_law_draws : DSt → Flow := fseq (fSet 3 (fC (.int 0))) (fseq (fIfS (fB (fOp (lift2 gtO) (fScLen (fVar 0)) (fC (.int 0)))) (fSet 3 (fScIx (fVar 0) (fOp (lift2 modO) (fVar 1) (fCall minO (pCons (fC (.int 63)) (pCons (fScLen (fVar 0)) fNil)))))) fnext) (fseq (fSet 4 (fAndV (fOp (lift2 ltO) (fVar 1) (fScLen (fVar 0))) (fOp (lift2 geO) (fVar 3) (fOp (lift2 powO) (fC (.int 10)) (fC (.int 18)))))) (fseq (fIfS (fB (fVar 4)) (fSet 3 (fOp (lift2 andO) (fVar 3) (fOp (lift2 subO) (fOp (lift2 powO) (fOp (lift2 powO) (fOp (lift2 powO) (fC (.int 2)) (fC (.int 60))) (fC (.int 60))) (fC (.int 6))) (fC (.int 1))))) fnext) (fseq (fSet 5 (fOp (lift2 addO) (fOp (lift2 modO) (fVar 3) (fC (.int 2147483629))) (fOp (lift2 mulO) (fC (.int 69621)) (fVar 1)))) (fseq (fSet 6 (fLst fNil)) (fseq (fFor (fRng1 (pCons (fVar 2) fNil)) (bName 7) b_law_draws_1) (fRet (fVar 6))))))))
def F_law_draws : List R → Pw → FRes := runF 9 3 p_law_draws
def b_law_names_v4_1 : DSt → Flow := fseq (fSet 2 (fOp (lift2 addO) (fOp (lift2 addO) (fVar 2) (fC (.int 1))) (fOp (lift2 ixO) (fLst (fCons (fC (.int 0)) (fCons (fC (.int 0)) (fCons (fOp (lift2 modO) (fOp (lift2 fdivO) (fVar 3) (fC (.int 4))) (fC (.int 3))) (fCons (fVar 3) fNil))))) (fOp (lift2 modO) (fVar 3) (fC (.int 4)))))) (fDrop (fApp 1 (fVar 2)))
abbrev o_law_names_v4_1 : List PyData → DSt → Flow := loopF (bName 3) b_law_names_v4_1
def e_law_names_v4_2 : M R := fOp (lift2 addO) (fVar 4) (fOp (lift2 mulO) (fOp (lift2 powO) (fC (.int 10)) (fC (.int 29))) (fCall intO (pCons (fOp (lift2 eqO) (fOp (lift2 modO) (fOp (lift2 fdivO) (fOp (lift2 ixO) (fVar 0) (fC (.int 0))) (fC (.int 16))) (fC (.int 8))) (fC (.int 5))) fNil)))
abbrev l_law_names_v4_2 : M R := fLc (fLstI (fVar 1)) (bName 4) fYes (e_law_names_v4_2) [4]
def p_law_names_v4 : DSt → Flow := fseq (fSet 1 (fLst fNil)) (fseq (fSet 2 (fUn (lift1 negO) (fC (.int 1)))) (fseq (fFor (fLstI (fVar 0)) (bName 3) b_law_names_v4_1) (fRet (fLc (fLstI (fVar 1)) (bName 4) fYes (e_law_names_v4_2) [4]))))
def F_law_names_v4 : List R → Pw → FRes := runF 5 1 p_law_names_v4
def b_law_shuffled_1 : DSt → Flow := fDrop (fIns 2 (fCons (fOp (lift2 modO) (fVar 4) (fOp (lift2 addO) (fCall lenO (pCons (fVar 2) fNil)) (fC (.int 1)))) (fCons (fVar 3) fNil)))
abbrev o_law_shuffled_1 : List PyData → DSt → Flow := loopF (bTup 2 (bCons (bName 3) (bCons (bName 4) bNil))) b_law_shuffled_1
def p_law_shuffled : DSt → Flow := fseq (fSet 2 (fLst fNil)) (fseq (fFor (fZip (fCons (fVar 0) (fCons (fVar 1) fNil))) (bTup 2 (bCons (bName 3) (bCons (bName 4) bNil))) b_law_shuffled_1) (fRet (fVar 2)))
def F_law_shuffled : List R → Pw → FRes := runF 5 2 p_law_shuffled
def b_law_fallen_1 : DSt → Flow := fDrop (fApp 3 (fPopAt 2 (fOp (lift2 ixO) (fLst (fCons (fC (.int 0)) (fCons (fUn (lift1 negO) (fC (.int 1))) fNil))) (fOp (lift2 modO) (fVar 4) (fC (.int 2))))))
abbrev o_law_fallen_1 : List PyData → DSt → Flow := loopF (bName 4) b_law_fallen_1
def p_law_fallen : DSt → Flow := fseq (fSet 2 (fCall listO (pCons (fVar 0) fNil))) (fseq (fSet 3 (fLst fNil)) (fseq (fFor (fLstI (fSlice (fVar 1) fNoPart (fPart (fCall lenO (pCons (fVar 0) fNil))))) (bName 4) b_law_fallen_1) (fRet (fUn (lift1 revO) (fVar 3)))))
def F_law_fallen : List R → Pw → FRes := runF 5 2 p_law_fallen
def p_law_line_v2 : DSt → Flow := fseq (fSet 3 (fUser F_law_draws (fCons (fVar 0) (fCons (fVar 1) (fCons (fOp (lift2 mulO) (fC (.int 2)) (fVar 2)) fNil))))) (fRet (fUser F_law_shuffled (fCons (fUser F_law_names_v4 (fCons (fSlice (fVar 3) fNoPart (fPart (fVar 2))) fNil)) (fCons (fSlice (fVar 3) (fPart (fVar 2)) fNoPart) fNil))))
def F_law_line_v2 : List R → Pw → FRes := runF 4 3 p_law_line_v2
def b_law_folk_v3_1 : DSt → Flow := fseq (fSet 7 (fUser F_law_draws (fCons (fVar 0) (fCons (fOp (lift2 addO) (fVar 1) (fVar 6)) (fCons (fOp (lift2 addO) (fCall lenO (pCons (fVar 2) fNil)) (fC (.int 1))) fNil))))) (fIfS (fOr (fB (fOp (lift2 eqO) (fVar 6) (fVar 4))) (fAnd (fB (fOp (lift2 ltO) (fVar 4) (fC (.int 0)))) (fB (fOp (lift2 gtO) (fOp (lift2 modO) (fOp (lift2 ixO) (fVar 7) (fUn (lift1 negO) (fC (.int 1)))) (fC (.int 3))) (fC (.int 0)))))) (fDrop (fApp 5 (fUser F_law_shuffled (fCons (fVar 2) (fCons (fVar 7) fNil))))) (fDrop (fApp 5 (fUser F_law_fallen (fCons (fVar 2) (fCons (fVar 7) fNil))))))
abbrev o_law_folk_v3_1 : List PyData → DSt → Flow := loopF (bName 6) b_law_folk_v3_1
def p_law_folk_v3 : DSt → Flow := fseq (fSet 5 (fLst fNil)) (fseq (fFor (fRng1 (pCons (fVar 3) fNil)) (bName 6) b_law_folk_v3_1) (fRet (fVar 5)))
def F_law_folk_v3 : List R → Pw → FRes := runF 8 5 p_law_folk_v3
def e_law_weights_1 : M R := fOp (lift2 ixO) (fLst (fCons (fC (.int 1)) (fCons (fOp (lift2 addO) (fC (.int 1)) (fOp (lift2 modO) (fOp (lift2 fdivO) (fVar 4) (fC (.int 4))) (fC (.int 9)))) (fCons (fOp (lift2 addO) (fC (.int 1)) (fOp (lift2 modO) (fOp (lift2 fdivO) (fVar 4) (fC (.int 4))) (fC (.int 2)))) (fCons (fOp (lift2 subO) (fOp (lift2 subO) (fOp (lift2 powO) (fC (.int 10)) (fC (.int 30))) (fC (.int 1))) (fVar 4)) fNil))))) (fOp (lift2 modO) (fVar 4) (fC (.int 4)))
abbrev l_law_weights_1 : M R := fLc (fLstI (fVar 3)) (bName 4) fYes (e_law_weights_1) [4]
def p_law_weights : DSt → Flow := fseq (fSet 3 (fUser F_law_draws (fCons (fVar 0) (fCons (fVar 1) (fCons (fVar 2) fNil))))) (fRet (fLc (fLstI (fVar 3)) (bName 4) fYes (e_law_weights_1) [4]))
def F_law_weights : List R → Pw → FRes := runF 5 3 p_law_weights
def b_law_names_v3_1 : DSt → Flow := fseq (fSet 2 (fOp (lift2 addO) (fOp (lift2 addO) (fVar 2) (fC (.int 1))) (fOp (lift2 ixO) (fLst (fCons (fC (.int 0)) (fCons (fC (.int 0)) (fCons (fOp (lift2 modO) (fOp (lift2 fdivO) (fVar 3) (fC (.int 4))) (fC (.int 3))) (fCons (fVar 3) fNil))))) (fOp (lift2 modO) (fVar 3) (fC (.int 4)))))) (fDrop (fApp 1 (fVar 2)))
abbrev o_law_names_v3_1 : List PyData → DSt → Flow := loopF (bName 3) b_law_names_v3_1
def p_law_names_v3 : DSt → Flow := fseq (fSet 1 (fLst fNil)) (fseq (fSet 2 (fUn (lift1 negO) (fC (.int 1)))) (fseq (fFor (fLstI (fVar 0)) (bName 3) b_law_names_v3_1) (fRet (fVar 1))))
def F_law_names_v3 : List R → Pw → FRes := runF 4 1 p_law_names_v3
def p_law_line : DSt → Flow := fseq (fSet 3 (fUser F_law_draws (fCons (fVar 0) (fCons (fVar 1) (fCons (fOp (lift2 mulO) (fC (.int 2)) (fVar 2)) fNil))))) (fRet (fUser F_law_shuffled (fCons (fUser F_law_names_v3 (fCons (fSlice (fVar 3) fNoPart (fPart (fVar 2))) fNil)) (fCons (fSlice (fVar 3) (fPart (fVar 2)) fNoPart) fNil))))
def F_law_line : List R → Pw → FRes := runF 4 3 p_law_line
theorem pow60 : ∃ A : Int, powO (.int 1152921504606846976) (.int 60) = some (.val (.int A)) ∧ ∃ B : Int, powO (.int A) (.int 6) = some (.val (.int B)) := by
  have p1 : lgP (1152921504606846976 : Int) := by unfold lgP; decide +kernel
  have p2 : lgP ((1152921504606846976 : Int) ^ (60 : Int).toNat) := by unfold lgP; decide +kernel
  have q1 : leP (60 : Int) := by unfold leP; decide
  have q2 : leP (6 : Int) := by unfold leP; decide
  refine ⟨(1152921504606846976 : Int) ^ (60 : Int).toNat, ?_, ?_⟩
  · rw [x_pow, if_pos ⟨by decide, q1, p1⟩]
  · obtain ⟨A, hA⟩ : ∃ A : Int, (1152921504606846976 : Int) ^ (60 : Int).toNat = A := ⟨_, rfl⟩
    rw [hA] at p2 ⊢
    exact ⟨_, by rw [x_pow, if_pos ⟨by decide, q2, p2⟩]⟩
def Dig (ds : List Int) : Prop := ∀ d ∈ ds, 0 ≤ d ∧ d < 1000000000
theorem Dig.snoc {ds : List Int} {x : Int} (h : Dig ds) (h0 : 0 ≤ x) (h1 : x < 1000000000) : Dig (ds ++ [x]) := by
  intro d hd
  rcases List.mem_append.mp hd with hd | hd
  · exact h d hd
  · simp at hd; subst hd; exact ⟨h0, h1⟩
theorem draws_ok {ns : List Int} {j m : Nat} {w : Pw} (hl : ns.length ≤ 63) (hj : j ≤ 1000) (hm : m ≤ 1000) : ∃ ds : List Int, F_law_draws [.ob (.scr ns), .val (.int ((j : Nat) : Int)), .val (.int ((m : Nat) : Int))] w = .ok (.new (ds.map .int)) w ∧ ds.length = m ∧ Dig ds := by
  obtain ⟨A, hA, B, hB⟩ := pow60
  obtain ⟨c0, hc0⟩ : ∃ c0 : Int, (if 0 < ns.length then atI ns ((j : Int) % (ns.length : Int)) else some 0) = some c0 := by
    by_cases h : 0 < ns.length
    · obtain ⟨x, ex, _⟩ := atI_some (xs := ns) (i := (j : Int) % (ns.length : Int)) (Int.emod_nonneg _ (by omega)) (Int.emod_lt_of_pos _ (by omega))
      exact ⟨x, by rw [if_pos h, ex]⟩
    · exact ⟨0, by rw [if_neg h]⟩
  have loop : ∀ (c n : Int) (g : Bool) (v7 v8 : Sl), 0 ≤ n → n < 2147483629 + 69621 * 1001 → ∃ (ds : List Int) (s' : DSt), loopF (bName 7) b_law_draws_1 (rangeD 0 m) ⟨[.ob (.scr ns), .val (.int ((j : Nat) : Int)), .val (.int ((m : Nat) : Int)), .val (.int (c)), .val (.bool g), .val (.int (n)), .own [], v7, v8], w⟩ = .next s' ∧ ds.length = m ∧ Dig ds ∧ ∃ c v7 v8, s' = ⟨[.ob (.scr ns), .val (.int ((j : Nat) : Int)), .val (.int ((m : Nat) : Int)), .val (.int (c)), .val (.bool g), .val (.int (n)), .own (ds.map .int), v7, v8], w⟩ := by
    intro c n g v7 v8 n0 n1
    obtain ⟨s', e, ds, c', v7', v8', h1, h2, rfl⟩ := loopN (b := bName 7) (p := b_law_draws_1) (f := fun k : Nat => PyData.int (0 + (k : Int))) (l := List.range m) (s := ⟨[.ob (.scr ns), .val (.int ((j : Nat) : Int)), .val (.int ((m : Nat) : Int)), .val (.int (c)), .val (.bool g), .val (.int (n)), .own [], v7, v8], w⟩)
      (fun i s => ∃ (ds : List Int) (c : Int) (v7 v8 : Sl), ds.length = i ∧ Dig ds ∧ s = ⟨[.ob (.scr ns), .val (.int ((j : Nat) : Int)), .val (.int ((m : Nat) : Int)), .val (.int (c)), .val (.bool g), .val (.int (n)), .own (ds.map .int), v7, v8], w⟩) ⟨[], c, v7, v8, rfl, fun d hd => (by simp at hd), rfl⟩ (by
        rintro i k s hi hk ⟨ds, c, v7, v8, h1, h2, rfl⟩
        obtain ⟨rfl, hkm⟩ := range_at hi
        have lt : ltS ds.length := size_lt (by omega)
        unfold b_law_draws_1
        cases g with
        | true =>
          have z0 : 0 ≤ c % 1000000000 := Int.emod_nonneg _ (by decide)
          have z1 : c % 1000000000 < 1000000000 := Int.emod_lt_of_pos _ (by decide)
          have em : ds.map PyData.int ++ [.int (c % 1000000000)] = (ds ++ [c % 1000000000]).map .int := by simp
          simp -implicitDefEqProofs [lt, em, -List.map_append, -map_int_inj]
          exact ⟨_, by simpa using h1, h2.snoc z0 z1, rfl⟩
        | false =>
          have e1 : mulO (.int 48271) (.int ((k : Int) + 1)) = _ := mul_ok (by omega) (by omega) (by omega) (by omega)
          obtain ⟨x, hx⟩ : ∃ x, x = (n + 48271 * ((k : Int) + 1)) % 2147483629 := ⟨_, rfl⟩
          have x0 : 0 ≤ x ∧ x < 2147483629 := by omega
          have e2 : mulO (.int x) (.int x) = _ := mul_ok (by omega) (by omega) (by omega) (by omega)
          obtain ⟨y, hy⟩ : ∃ y, y = (x * x + (k : Int)) % 2147483629 := ⟨_, rfl⟩
          have y0 : 0 ≤ y ∧ y < 2147483629 := by omega
          have e3 : mulO (.int y) (.int y) = _ := mul_ok (by omega) (by omega) (by omega) (by omega)
          obtain ⟨z, hz⟩ : ∃ z, z = y * y % 2147483587 % 1000000000 := ⟨_, rfl⟩
          have z0 : 0 ≤ z ∧ z < 1000000000 := by omega
          have em : ds.map PyData.int ++ [.int z] = (ds ++ [z]).map .int := by simp
          simp -implicitDefEqProofs [lt, e1, ← hx, e2, ← hy, e3, ← hz, em, -List.map_append, -map_int_inj]
          exact ⟨_, by simpa using h1, h2.snoc z0.1 z0.2, rfl⟩)
    exact ⟨ds, _, e, by simpa using h1, h2, c', v7', v8', rfl⟩
  have hm1 : inB (m : Int) := inB_of (by omega) (by omega)
  have e6 : mulO (.int 69621) (.int (j : Int)) = some (.val (.int (69621 * (j : Int)))) := mul_ok (by omega) (by omega) (by omega) (by omega)
  have num : ∀ c : Int, 0 ≤ c % 2147483629 + 69621 * (j : Int) ∧ c % 2147483629 + 69621 * (j : Int) < 2147483629 + 69621 * 1001 := fun c => by omega
  have hmin : ∀ a : Nat, a ≤ 63 → (if (a : Int) < 63 then (a : Int) else 63) = a := fun a h => by split <;> omega
  unfold F_law_draws p_law_draws
  simp only [x_runF]
  by_cases h : 0 < ns.length
  · rw [if_pos h] at hc0
    have h' : (0 : Int) < ns.length := by omega
    have e5 := mod_ok (a := (j : Int)) h'
    by_cases g1 : (j : Int) < ns.length
    · by_cases g2 : (1000000000000000000 : Int) ≤ c0
      · obtain ⟨D, hD⟩ : ∃ D : Int, Builtin.bitAnd c0 (B - 1) = D := ⟨_, rfl⟩
        obtain ⟨ds, s', e, l1, l2, c', v7, v8, rfl⟩ := loop D (D % 2147483629 + 69621 * (j : Int)) true .no .no (num D).1 (num D).2
        refine ⟨ds, ?_, l1, l2⟩
        simp -implicitDefEqProofs [h, h', hmin, hl, e5, hc0, g1, g2, hA, hB, hD, e6, hm1, e]
      · obtain ⟨ds, s', e, l1, l2, c', v7, v8, rfl⟩ := loop c0 (c0 % 2147483629 + 69621 * (j : Int)) false .no .no (num c0).1 (num c0).2
        refine ⟨ds, ?_, l1, l2⟩
        simp -implicitDefEqProofs [h, h', hmin, hl, e5, hc0, g1, g2, hA, hB, e6, hm1, e]
    · obtain ⟨ds, s', e, l1, l2, c', v7, v8, rfl⟩ := loop c0 (c0 % 2147483629 + 69621 * (j : Int)) false .no .no (num c0).1 (num c0).2
      refine ⟨ds, ?_, l1, l2⟩
      simp -implicitDefEqProofs [h, h', hmin, hl, e5, hc0, g1, e6, hm1, e]
  · have h0 : ns = [] := List.eq_nil_of_length_eq_zero (by omega)
    subst h0
    have g1 : ¬ (j : Int) < 0 := by omega
    obtain ⟨ds, s', e, l1, l2, c', v7, v8, rfl⟩ := loop 0 (0 % 2147483629 + 69621 * (j : Int)) false .no .no (num 0).1 (num 0).2
    refine ⟨ds, ?_, l1, l2⟩
    simp -implicitDefEqProofs at e
    simp -implicitDefEqProofs [g1, e6, hm1, e]

end DL

noncomputable section
namespace DL
open PySem L2

def Names (ns : List Int) : Prop := ns.Nodup ∧ ∀ x ∈ ns, 0 ≤ x ∧ x < 100000000000000000000000000000000000
theorem Names.perm {ns ms : List Int} (h : Names ns) (p : ms.Perm ns) : Names ms := ⟨p.nodup_iff.mpr h.1, fun x hx => h.2 x (p.mem_iff.mp hx)⟩
theorem Names.small {ns : List Int} (h : Names ns) : smallA (ns.map .int) = true := smallA_ints fun x hx => by
  have := h.2 x hx
  have e : (100000000000000000000000000000000000 : Nat) ≤ 10 ^ 90 := by decide +kernel
  have : x.natAbs < 100000000000000000000000000000000000 := by omega
  exact Nat.lt_of_lt_of_le this e
def RankN (ns : List Int) : Prop := Names ns ∧ 0 < ns.length ∧ ns.length ≤ 10

end DL

noncomputable section
namespace DL
open PySem L2

theorem at3 {α : Type} {a b c d : α} : atI [a, b, c, d] 3 = some d := by
  show atI _ ((3 : Nat) : Int) = _
  rw [atI_nat]; rfl
theorem names4_ok {ds : List Int} {w : Pw} (hd : Dig ds) (h0 : 0 < ds.length) (hl : ds.length ≤ 100) : ∃ N : List Int, F_law_names_v4 [.val (.list ((ds).map .int))] w = .ok (.new (N.map .int)) w ∧ N.length = ds.length ∧ Names N := by
  obtain ⟨s', e, N, la, v3, h1, h2, h3, h4, h5, rfl⟩ := loopN (b := bName 3) (p := b_law_names_v4_1) (f := .int) (l := ds) (s := ⟨[.val (.list ((ds).map .int)), .own [], .val (.int (-1)), .no, .no], w⟩)
    (fun i s => ∃ (N : List Int) (la : Int) (v3 : Sl), N.length = i ∧ N.Nodup ∧ (∀ x ∈ N, 0 ≤ x ∧ x ≤ la) ∧ -1 ≤ la ∧ la < 2000000000 * (i : Int) ∧ s = ⟨[.val (.list ((ds).map .int)), .own (N.map .int), .val (.int (la)), v3, .no], w⟩) ⟨[], -1, .no, rfl, by simp, by simp, by omega, by omega, rfl⟩ (by
      rintro i d s hi hm ⟨N, la, v3, h1, h2, h3, h4, h5, rfl⟩
      obtain ⟨d0, d1⟩ := hd d hm
      have hi2 := (List.getElem?_eq_some_iff.mp hi).1
      obtain ⟨x, ex, x0, x1⟩ : ∃ x : Int, atI [PyData.int 0, .int 0, .int (d / 4 % 3), .int d] (d % 4) = some (.int x) ∧ 0 ≤ x ∧ x < 1000000000 := by
        have : d % 4 = 0 ∨ d % 4 = 1 ∨ d % 4 = 2 ∨ d % 4 = 3 := by omega
        rcases this with q | q | q | q <;> rw [q]
        · exact ⟨0, by simp, by omega, by omega⟩
        · exact ⟨0, by simp, by omega, by omega⟩
        · exact ⟨d / 4 % 3, by simp, by omega, by omega⟩
        · exact ⟨d, at3, by omega, by omega⟩
      have s4 : leS 4 := size_le (by omega)
      have lt : ltS N.length := size_lt (by omega)
      have em : N.map PyData.int ++ [.int (la + 1 + x)] = (N ++ [la + 1 + x]).map .int := by simp
      unfold b_law_names_v4_1
      simp -implicitDefEqProofs [ex, s4, lt, em, -List.map_append, -map_int_inj]
      refine ⟨N ++ [la + 1 + x], by simpa using h1, ?_, la + 1 + x, ?_, by omega, by omega, rfl, rfl⟩
      · refine List.nodup_append.mpr ⟨h2, by simp, ?_⟩
        intro a ha b hb
        simp at hb
        have := h3 a ha
        omega
      · intro y hy
        rcases List.mem_append.mp hy with hy | hy
        · have := h3 y hy; omega
        · simp at hy; omega)
  obtain ⟨d0, hd0⟩ : ∃ d0, ds[0]? = some d0 := ⟨ds[0], List.getElem?_eq_getElem h0⟩
  obtain ⟨c, hc, hm⟩ : ∃ c : Int, (c = 0 ∨ c = 100000000000000000000000000000) ∧ mulO (.int 100000000000000000000000000000) (.int (if d0 / 16 % 8 = 5 then 1 else 0)) = some (.val (.int c)) := by
    by_cases q : d0 / 16 % 8 = 5
    · rw [if_pos q]
      exact ⟨_, .inr rfl, mul_ok (by omega) (by omega) (by omega) (by omega)⟩
    · rw [if_neg q]
      exact ⟨_, .inl rfl, mul_ok (by omega) (by omega) (by omega) (by omega)⟩
  have hd0' : (ds.map PyData.int)[0]? = some (.int d0) := by rw [List.getElem?_map, hd0]; rfl
  refine ⟨N.map (· + c), ?_, by simpa using h1, ?_, ?_⟩
  · have el : l_law_names_v4_2 ⟨[.val (.list ((ds).map .int)), .own (N.map .int), .val (.int (la)), v3, .no], w⟩ = .ok (.new (N.map fun x => .int (x + c))) ⟨[.val (.list ((ds).map .int)), .val (.list (N.map .int)), .val (.int (la)), v3, .no], w⟩ := by
      refine lc_all (fun x : Int => ⟨[.val (.list ((ds).map .int)), .val (.list (N.map .int)), .val (.int (la)), v3, .val (.int (x))], w⟩) _ (f := .int) (l := N) (by simp -implicitDefEqProofs) (by omega) rfl (fun a _ => by rfl) (fun a _ => by rfl) (fun x hx => ?_)
      unfold e_law_names_v4_2
      simp -implicitDefEqProofs [hd0, hm]
    unfold F_law_names_v4 p_law_names_v4
    simp only [x_runF]
    simp -implicitDefEqProofs [e, el]
    try rfl
  · exact List.Pairwise.map _ (fun a b (z : a ≠ b) => by omega) h2
  · intro x hx
    obtain ⟨y, hy, rfl⟩ := List.mem_map.mp hx
    have := h3 y hy
    rcases hc with rfl | rfl <;> omega
theorem zip_ints {a b : List Int} : zipD (a.map .int) (b.map .int) = (a.zip b).map prD := by
  unfold zipD
  rw [List.zip_map, List.map_map]
  rfl
theorem shuffled_ok {N ds : List Int} {w : Pw} (hd : Dig ds) (hl : N.length ≤ ds.length) (h10 : N.length ≤ 1000) : ∃ L : List Int, F_law_shuffled [.val (.list ((N).map .int)), .val (.list ((ds).map .int))] w = .ok (.new (L.map .int)) w ∧ L.Perm N := by
  obtain ⟨s', e, L, v3, v4, hp, rfl⟩ := loopN (b := bTup 2 (bCons (bName 3) (bCons (bName 4) bNil))) (p := b_law_shuffled_1) (f := prD) (l := N.zip ds) (s := ⟨[.val (.list ((N).map .int)), .val (.list ((ds).map .int)), .own [], .no, .no], w⟩)
    (fun i s => ∃ (L : List Int) (v3 v4 : Sl), L.Perm (N.take i) ∧ s = ⟨[.val (.list ((N).map .int)), .val (.list ((ds).map .int)), .own (L.map .int), v3, v4], w⟩) ⟨[], .no, .no, by simp, rfl⟩ (by
      rintro i p s hi hm ⟨L, v3, v4, hp, rfl⟩
      obtain ⟨a, d⟩ := p
      rw [List.getElem?_zip_eq_some] at hi
      obtain ⟨hiN, hid⟩ := hi
      have hi2 := (List.getElem?_eq_some_iff.mp hiN).1
      have ll := hp.length_eq
      rw [List.length_take] at ll
      have hlen : (0 : Int) < (L.length : Int) + 1 := by omega
      have md := mod_ok (a := d) hlen
      have k0 := Int.emod_nonneg d (by omega : (L.length : Int) + 1 ≠ 0)
      have k1 := Int.emod_lt_of_pos d hlen
      obtain ⟨k, hk⟩ := Int.eq_ofNat_of_zero_le k0
      have iw : inW (k : Int) := ⟨by omega, by omega⟩
      have lt : ltS L.length := size_lt (by omega)
      have em : (L.map PyData.int).take k ++ (PyData.int a :: (L.map PyData.int).drop k) = (L.take k ++ a :: L.drop k).map .int := by simp
      unfold b_law_shuffled_1
      simp -implicitDefEqProofs [prD, md, hk, iw, lt, em, -List.map_append, -List.map_cons, -List.map_take, -List.map_drop, -map_int_inj]
      refine ⟨_, ?_, rfl⟩
      rw [take_succ hiN]
      have h1 : (L.take k ++ a :: L.drop k).Perm (a :: L) := by
        have := List.perm_middle (a := a) (l₁ := L.take k) (l₂ := L.drop k)
        rwa [List.take_append_drop] at this
      exact h1.trans ((List.Perm.cons a hp).trans (List.perm_append_singleton a (N.take i)).symm))
  refine ⟨L, ?_, ?_⟩
  · unfold F_law_shuffled p_law_shuffled
    simp only [x_runF]
    simp -implicitDefEqProofs [zip_ints, e]
  · have : (N.zip ds).length = N.length := by rw [List.length_zip]; omega
    rw [this, List.take_length] at hp
    exact hp
theorem fallen_ok {L ds : List Int} {w : Pw} (hd : Dig ds) (h0 : 0 < L.length) (hl : L.length ≤ ds.length) (h10 : L.length ≤ 1000) : ∃ bs : List Bool, F_law_fallen [.val (.list ((L).map .int)), .val (.list ((ds).map .int))] w = .ok (.new (((pick L bs).reverse).map .int)) w ∧ bs.length + 1 = L.length := by
  obtain ⟨D, hD⟩ : ∃ D, ds.take L.length = D := ⟨_, rfl⟩
  have lD : D.length = L.length := by rw [← hD, List.length_take]; omega
  have mD : ∀ d ∈ D, 0 ≤ d ∧ d < 1000000000 := fun d hm => hd d (by rw [← hD] at hm; exact List.mem_of_mem_take hm)
  have cD : cutD (ds.map PyData.int) none (some (L.length : Int)) = D.map .int := by rw [cutD_map, cut_to, hD]
  obtain ⟨s', e, ls, fs, v4, k1, k2, hp, rfl⟩ := loopN (b := bName 4) (p := b_law_fallen_1) (f := .int) (l := D) (s := ⟨[.val (.list ((L).map .int)), .val (.list ((ds).map .int)), .own (L.map .int), .own [], .no], w⟩)
    (fun i s => ∃ (ls fs : List Int) (v4 : Sl), ls.length + i = L.length ∧ fs.length = i ∧ ((ls ≠ [] ∧ ∃ bs : List Bool, bs.length + ls.length = L.length ∧ ∀ cs, fs ++ pick ls cs = pick L (bs ++ cs)) ∨ (ls = [] ∧ ∃ bs : List Bool, bs.length + 1 = L.length ∧ fs = pick L bs)) ∧ s = ⟨[.val (.list ((L).map .int)), .val (.list ((ds).map .int)), .own (ls.map .int), .own (fs.map .int), v4], w⟩) ⟨L, [], .no, rfl, rfl, .inl ⟨List.length_pos_iff.mp h0, [], by simp, fun cs => rfl⟩, rfl⟩ (by
      rintro i d s hi hm ⟨ls, fs, v4, k1, k2, hp, rfl⟩
      have hi2 := (List.getElem?_eq_some_iff.mp hi).1
      have ln : 0 < ls.length := by omega
      have n0 : ls ≠ [] := List.length_pos_iff.mp ln
      obtain ⟨bs, hb, hq⟩ : ∃ bs : List Bool, bs.length + ls.length = L.length ∧ ∀ cs, fs ++ pick ls cs = pick L (bs ++ cs) := by
        rcases hp with ⟨_, h⟩ | ⟨h, _⟩
        · exact h
        · exact absurd h n0
      have lt : ltS fs.length := size_lt (by omega)
      have s2 : leS 2 := size_le (by omega)
      have fin : ∀ (x : Int) (K : List Int) (b : Bool), K.length + 1 = ls.length → (∀ cs, pick ls (b :: cs) = x :: pick K cs) → (ls = [x] ∨ K ≠ []) → K.length + (i + 1) = L.length ∧ (fs ++ [x]).length = i + 1 ∧ ((K ≠ [] ∧ ∃ bs : List Bool, bs.length + K.length = L.length ∧ ∀ cs, (fs ++ [x]) ++ pick K cs = pick L (bs ++ cs)) ∨ (K = [] ∧ ∃ bs : List Bool, bs.length + 1 = L.length ∧ fs ++ [x] = pick L bs)) := by
        intro x K b hK hpk hor
        refine ⟨by omega, by simp [k2], ?_⟩
        by_cases hK0 : K = []
        · right
          refine ⟨hK0, bs, ?_, ?_⟩
          · subst hK0; simp at hK; omega
          · have hx : ls = [x] := hor.resolve_right fun z => z hK0
            have := hq []
            rw [hx] at this
            simpa [pick_nil] using this
        · left
          refine ⟨hK0, bs ++ [b], by simp; omega, fun cs => ?_⟩
          have := hq (b :: cs)
          rw [hpk] at this
          simpa using this
      obtain ⟨b, hb2⟩ : ∃ b, d % 2 = b := ⟨_, rfl⟩
      have : b = 0 ∨ b = 1 := by omega
      rcases this with rfl | rfl
      · match ls, n0, ln, k1, hb, hq, fin with
        | x :: K, _, ln, k1, hb, hq, fin =>
          have ix : ixN (K.length + 1) 0 = some 0 := ix_0 (by omega)
          have em : fs.map PyData.int ++ [.int x] = (fs ++ [x]).map .int := by simp
          obtain ⟨g1, g2, g3⟩ := fin x K false rfl (fun cs => pick_false) (by cases K with | nil => exact .inl rfl | cons _ _ => exact .inr (by simp))
          unfold b_law_fallen_1
          simp -implicitDefEqProofs [hb2, ix, s2, lt, em, -List.map_append, -map_int_inj]
          exact ⟨K, g1, fs ++ [x], g2, g3, rfl, rfl⟩
      · obtain ⟨K, x, rfl⟩ := (snoc_of ls).resolve_left n0
        have ix : ixN (K.length + 1) (-1) = some K.length := by rw [ix_m1 (by omega)]; simp
        have hg : (K.map PyData.int ++ [PyData.int x])[K.length]? = some (.int x) := by simp
        have he : (K.map PyData.int ++ [PyData.int x]).eraseIdx K.length = K.map .int := eraseIdx_last (by simp)
        have em : fs.map PyData.int ++ [.int x] = (fs ++ [x]).map .int := by simp
        obtain ⟨g1, g2, g3⟩ := fin x K true (by simp) (fun cs => pick_true) (by cases K with | nil => exact .inl rfl | cons _ _ => exact .inr (by simp))
        have hw : inW (-1 : Int) := ⟨by omega, by omega⟩
        unfold b_law_fallen_1
        simp -implicitDefEqProofs [hb2, ix, hg, he, s2, lt, hw, -map_int_inj]
        exact ⟨K, g1, fs ++ [x], g2, g3, rfl, by simp⟩)
  have k1 : ls.length + D.length = L.length := k1
  have z : ls = [] := List.eq_nil_of_length_eq_zero (by omega)
  rcases hp with ⟨h, _⟩ | ⟨_, bs, hb, hf⟩
  · exact absurd z h
  · refine ⟨bs, ?_, hb⟩
    unfold F_law_fallen p_law_fallen
    simp only [x_runF]
    rw [← hf]
    simp -implicitDefEqProofs [cD, e]

end DL

noncomputable section
namespace DL
open PySem L2

end DL

noncomputable section
namespace DL
open PySem L2
def t_between_1 : M Bool := fB (fUser F_is_ahead (fCons (fVar 2) (fCons (fOp (lift2 ixO) (fVar 3) (fC (.int 0))) (fCons (fOp (lift2 ixO) (fVar 3) (fC (.int 1))) fNil))))
def e_between_2 : M R := fUser F_is_ahead (fCons (fVar 1) (fCons (fOp (lift2 ixO) (fVar 3) (fC (.int 0))) (fCons (fOp (lift2 ixO) (fVar 3) (fC (.int 1))) fNil)))
abbrev l_between_2 : M R := fLc (fLstI (fUser F_pairs_of (fCons (fVar 0) fNil))) (bName 3) (t_between_1) (e_between_2) [3]
def p_between : DSt → Flow := fseq (fDrop (fUser F_must_be_alike_named (fCons (fLst (fCons (fVar 0) (fCons (fVar 1) (fCons (fVar 2) fNil)))) fNil))) (fRet (fCall allO (pCons (fLc (fLstI (fUser F_pairs_of (fCons (fVar 0) fNil))) (bName 3) (t_between_1) (e_between_2) [3]) fNil)))
def F_between : List R → Pw → FRes := runF 4 3 p_between
def b_law_between_1 : DSt → Flow := fseq (fSet 5 (fOp (lift2 ltO) (fIndex (fVar 0) (fVar 3)) (fIndex (fVar 0) (fVar 4)))) (fIfS (fAnd (fB (fOp (lift2 eqO) (fVar 5) (fOp (lift2 ltO) (fIndex (fVar 2) (fVar 3)) (fIndex (fVar 2) (fVar 4))))) (fB (fOp (lift2 neO) (fVar 5) (fOp (lift2 ltO) (fIndex (fVar 1) (fVar 3)) (fIndex (fVar 1) (fVar 4)))))) (fRet (fC (.bool false))) fnext)
abbrev o_law_between_1 : List PyData → DSt → Flow := loopF (bName 4) b_law_between_1
def b_law_between_2 : DSt → Flow := fFor (fLstI (fVar 0)) (bName 4) b_law_between_1
abbrev o_law_between_2 : List PyData → DSt → Flow := loopF (bName 3) b_law_between_2
def p_law_between : DSt → Flow := fseq (fFor (fLstI (fVar 0)) (bName 3) b_law_between_2) (fRet (fC (.bool true)))
def F_law_between : List R → Pw → FRes := runF 6 3 p_law_between
def t_law_toward_1 : M Bool := fB (fOp (lift2 gtO) (fIndex (fVar 2) (fOp (lift2 ixO) (fVar 3) (fVar 7))) (fIndex (fVar 2) (fOp (lift2 ixO) (fVar 3) (fOp (lift2 addO) (fVar 7) (fC (.int 1))))))
def e_law_toward_2 : M R := fVar 7
abbrev l_law_toward_2 : M R := fLc (fRng1 (pCons (fOp (lift2 subO) (fCall lenO (pCons (fVar 3) fNil)) (fC (.int 1))) fNil)) (bName 7) (t_law_toward_1) (e_law_toward_2) [7]
def b_law_toward_3 : DSt → Flow := fseq (fSet 5 (fLc (fRng1 (pCons (fOp (lift2 subO) (fCall lenO (pCons (fVar 3) fNil)) (fC (.int 1))) fNil)) (bName 7) (t_law_toward_1) (e_law_toward_2) [7])) (fIfS (fB (fOp (lift2 neO) (fVar 5) (fLst fNil))) (fseq (fSet 6 (fOp (lift2 ixO) (fVar 5) (fUser F_law_draw (fCons (fVar 0) (fCons (fCall lenO (pCons (fVar 5) fNil)) fNil))))) (fSet 3 (fOp (lift2 addO) (fOp (lift2 addO) (fSlice (fVar 3) fNoPart (fPart (fVar 6))) (fLst (fCons (fOp (lift2 ixO) (fVar 3) (fOp (lift2 addO) (fVar 6) (fC (.int 1)))) (fCons (fOp (lift2 ixO) (fVar 3) (fVar 6)) fNil)))) (fSlice (fVar 3) (fPart (fOp (lift2 addO) (fVar 6) (fC (.int 2)))) fNoPart)))) fnext)
abbrev o_law_toward_3 : List PyData → DSt → Flow := loopF (bName 4) b_law_toward_3
def p_law_toward : DSt → Flow := fseq (fSet 3 (fCall listO (pCons (fVar 1) fNil))) (fseq (fFor (fRng1 (pCons (fUser F_law_draw (fCons (fVar 0) (fCons (fC (.int 20)) fNil))) fNil)) (bName 4) b_law_toward_3) (fRet (fVar 3)))
def F_law_toward : List R → Pw → FRes := runF 8 3 p_law_toward
def p_law_three : DSt → Flow := fseq (fSet 1 (fUser F_law_mixed (fCons (fVar 0) (fCons (fUser F_law_names (fCons (fVar 0) (fCons (fUser F_law_many (fCons (fVar 0) fNil)) fNil))) fNil)))) (fseq (fSet 2 (fUser F_law_mixed (fCons (fVar 0) (fCons (fVar 1) fNil)))) (fseq (fSet 3 (fUser F_law_draw (fCons (fVar 0) (fCons (fC (.int 4)) fNil)))) (fseq (fSet 4 (fUser F_law_mixed (fCons (fVar 0) (fCons (fVar 1) fNil)))) (fseq (fIfS (fB (fOp (lift2 gtO) (fVar 3) (fC (.int 0)))) (fSet 4 (fUser F_law_toward (fCons (fVar 0) (fCons (fVar 1) (fCons (fVar 2) fNil))))) fnext) (fseq (fIfS (fB (fOp (lift2 eqO) (fVar 3) (fC (.int 3)))) (fseq (fSet 5 (fUser F_law_draw (fCons (fVar 0) (fCons (fCall lenO (pCons (fVar 1) fNil)) fNil)))) (fSet 4 (fOp (lift2 addO) (fOp (lift2 addO) (fSlice (fVar 4) fNoPart (fPart (fVar 5))) (fUn (lift1 revO) (fSlice (fVar 4) (fPart (fVar 5)) (fPart (fOp (lift2 addO) (fVar 5) (fC (.int 2))))))) (fSlice (fVar 4) (fPart (fOp (lift2 addO) (fVar 5) (fC (.int 2)))) fNoPart)))) fnext) (fRet (fLst (fCons (fVar 1) (fCons (fVar 4) (fCons (fVar 2) fNil))))))))))
def F_law_three : List R → Pw → FRes := runF 6 1 p_law_three
def b_law_k03_1 : DSt → Flow := fseq (fSet 10 (fLst (fCons (fOp (lift2 ixO) (fVar 6) (fVar 7)) (fCons (fOp (lift2 ixO) (fVar 6) (fVar 8)) (fCons (fOp (lift2 ixO) (fVar 6) (fVar 9)) fNil))))) (fseq (fSet 11 (fUser F_between (fCons (fOp (lift2 ixO) (fVar 10) (fC (.int 0))) (fCons (fOp (lift2 ixO) (fVar 10) (fC (.int 1))) (fCons (fOp (lift2 ixO) (fVar 10) (fC (.int 2))) fNil))))) (fseq (fIfS (fOr (fNot (fB (fIsi "bool" (fVar 11)))) (fB (fOp (lift2 neO) (fVar 11) (fUser F_law_between (fCons (fOp (lift2 ixO) (fVar 10) (fC (.int 0))) (fCons (fOp (lift2 ixO) (fVar 10) (fC (.int 1))) (fCons (fOp (lift2 ixO) (fVar 10) (fC (.int 2))) fNil))))))) (fRet (fC (.bool false))) fnext) (fseq (fSet 12 (fOp (lift2 addO) (fUser F_unlike (fCons (fOp (lift2 ixO) (fVar 10) (fC (.int 0))) (fCons (fOp (lift2 ixO) (fVar 10) (fC (.int 1))) fNil))) (fUser F_unlike (fCons (fOp (lift2 ixO) (fVar 10) (fC (.int 1))) (fCons (fOp (lift2 ixO) (fVar 10) (fC (.int 2))) fNil))))) (fseq (fIfS (fOr (fB (fOp (lift2 neO) (fVar 11) (fOp (lift2 eqO) (fVar 12) (fUser F_unlike (fCons (fOp (lift2 ixO) (fVar 10) (fC (.int 0))) (fCons (fOp (lift2 ixO) (fVar 10) (fC (.int 2))) fNil)))))) (fB (fOp (lift2 ltO) (fVar 12) (fUser F_unlike (fCons (fOp (lift2 ixO) (fVar 10) (fC (.int 0))) (fCons (fOp (lift2 ixO) (fVar 10) (fC (.int 2))) fNil)))))) (fRet (fC (.bool false))) fnext) (fIfS (fB (fOp (lift2 neO) (fVar 6) (fLst (fCons (fVar 3) (fCons (fVar 4) (fCons (fVar 5) fNil)))))) (fRet (fC (.bool false))) fnext)))))
abbrev o_law_k03_1 : List PyData → DSt → Flow := loopF (bTup 3 (bCons (bName 7) (bCons (bName 8) (bCons (bName 9) bNil)))) b_law_k03_1
def b_law_k03_2 : DSt → Flow := fseq (fAsgB (fUser F_law_three (fCons (fVar 1) fNil)) (bSeq 3 (bCons (bName 3) (bCons (bName 4) (bCons (bName 5) bNil))))) (fseq (fSet 6 (fLst (fCons (fCall listO (pCons (fVar 3) fNil)) (fCons (fCall listO (pCons (fVar 4) fNil)) (fCons (fCall listO (pCons (fVar 5) fNil)) fNil))))) (fFor (fLstI (fLst (fCons (fTup (fCons (fC (.int 0)) (fCons (fC (.int 1)) (fCons (fC (.int 2)) fNil)))) (fCons (fTup (fCons (fC (.int 2)) (fCons (fC (.int 1)) (fCons (fC (.int 0)) fNil)))) (fCons (fTup (fCons (fC (.int 1)) (fCons (fC (.int 0)) (fCons (fC (.int 2)) fNil)))) (fCons (fTup (fCons (fC (.int 0)) (fCons (fC (.int 0)) (fCons (fC (.int 2)) fNil)))) (fCons (fTup (fCons (fC (.int 0)) (fCons (fC (.int 2)) (fCons (fC (.int 2)) fNil)))) (fCons (fTup (fCons (fC (.int 0)) (fCons (fC (.int 1)) (fCons (fC (.int 0)) fNil)))) fNil)))))))) (bTup 3 (bCons (bName 7) (bCons (bName 8) (bCons (bName 9) bNil)))) b_law_k03_1))
abbrev o_law_k03_2 : List PyData → DSt → Flow := loopF (bName 2) b_law_k03_2
def p_law_k03 : DSt → Flow := fseq (fFor (fRng1 (pCons (fC (.int 4)) fNil)) (bName 2) b_law_k03_2) (fRet (fC (.bool true)))
def F_law_k03 : List R → Pw → FRes := runF 13 1 p_law_k03
def btw (a m b : List Int) : Bool := ((pairsI a).filter fun p => ah b p.1 p.2).all fun p => ah m p.1 p.2
def lokB (a m b : List Int) (x y : Int) : Bool := !((ah a x y == ah b x y) && (ah a x y != ah m x y))
def lbt (a m b : List Int) : Bool := a.all fun x => a.all (lokB a m b x)
def nth (l : List Int) (k : Nat) : Int := l.getD k 0
end DL

noncomputable section
namespace DL
open PySem L2

@[simp] theorem x_isT_dict {kvs : List (PyData × PyData)} {m : String} : isT m (.dict kvs) = (m == "dict") := by simp [isT, isN, tyN]
def isI : PyData → Bool | .int _ => true | _ => false
def nameB : PyData → Bool | .int n => decide (0 ≤ n) | _ => false
theorem is_number_any {d : PyData} {w : Pw} : F_is_number [.val d] w = .ok (.val (.bool (isI d))) w := by
  unfold F_is_number p_is_number
  simp only [x_runF]
  cases d <;> simp -implicitDefEqProofs [isI]
theorem nub_of {ns : List Int} : ∀ i, i ≤ ns.length → (PyProof.Rows.firstMet (fun i => ns.getD i 0) i).length = i → PyProof.Rows.firstMet (fun i => ns.getD i 0) i = ns.take i ∧ (ns.take i).Nodup
  | 0, _, _ => by simp [PyProof.Rows.firstMet_zero]
  | i + 1, hi, h => by
    have hle := PyProof.Rows.firstMet_length_le (fun i => ns.getD i 0) i
    rw [PyProof.Rows.firstMet_succ] at h ⊢
    have ex : ns.getD i 0 = ns[i] := by simp [List.getD_eq_getElem?_getD, List.getElem?_eq_getElem (by omega : i < ns.length)]
    rw [ex] at h ⊢
    unfold PyProof.Rows.step_dedup at h ⊢
    by_cases q : ((PyProof.Rows.firstMet (fun i => ns.getD i 0) i).any (· == ns[i])) = true
    · rw [if_pos q] at h
      omega
    · rw [if_neg q] at h ⊢
      simp only [List.length_append, List.length_cons, List.length_nil] at h
      obtain ⟨e1, e2⟩ := nub_of (ns := ns) i (by omega) (by omega)
      rw [e1] at q ⊢
      have et : ns.take (i + 1) = ns.take i ++ [ns[i]] := by rw [List.take_add_one, List.getElem?_eq_getElem (by omega : i < ns.length)]; rfl
      refine ⟨et.symm, ?_⟩
      rw [et, List.nodup_append]
      refine ⟨e2, by simp, fun a ha b hb => ?_⟩
      simp at hb
      subst hb
      rintro rfl
      exact q (List.any_eq_true.mpr ⟨_, ha, by simp⟩)
theorem nub_iff {ns : List Int} : (nubI ns).length = ns.length ↔ ns.Nodup := by
  refine ⟨fun h => ?_, nub_len⟩
  have := (nub_of (ns := ns) ns.length (Nat.le_refl _) h).2
  rwa [List.take_length] at this
theorem nub_dec {ns : List Int} : decide (((nubI ns).length : Int) = (ns.length : Int)) = decide ns.Nodup := by
  rw [decide_eq_decide, ← nub_iff]
  omega
/-! ### what is a list of unlike names -/
theorem nameB_ints : ∀ {ds : List PyData}, ds.all nameB = true → ∃ ns : List Int, ds = ns.map .int ∧ ∀ x ∈ ns, 0 ≤ x
  | [], _ => ⟨[], rfl, by simp⟩
  | d :: ds, h => by
    simp at h
    obtain ⟨ns, rfl, h2⟩ := nameB_ints (ds := ds) (by simpa using h.2)
    cases d with
    | int n => exact ⟨n :: ns, rfl, by
        have h1 : 0 ≤ n := by simpa [nameB] using h.1
        simp [h1]
        exact h2⟩
    | _ => simp [nameB] at h
def unlikeB : PyData → Bool
  | .list ds => match intsD ds with
    | some ns => decide (ns.Nodup ∧ ∀ x ∈ ns, 0 ≤ x)
    | none => false
  | _ => false
theorem intsD_some : ∀ {ds : List PyData} {ns : List Int}, intsD ds = some ns → ds = ns.map .int
  | [], _, h => by cases h; rfl
  | .int n :: ds, ns, h => by
    unfold intsD at h
    cases q : intsD ds with
    | none => rw [q] at h; cases h
    | some ms => rw [q] at h; cases h; rw [intsD_some q]; rfl
  | .none :: _, _, h | .bool _ :: _, _, h | .str _ :: _, _, h | .list _ :: _, _, h | .tuple _ :: _, _, h | .dict _ :: _, _, h => by unfold intsD at h; cases h
theorem names_iff {ds : List PyData} : ds.all nameB = true ↔ ∃ ns : List Int, intsD ds = some ns ∧ ∀ x ∈ ns, 0 ≤ x := by
  constructor
  · intro h
    obtain ⟨ns, rfl, h2⟩ := nameB_ints h
    exact ⟨ns, intsD_map ns, h2⟩
  · rintro ⟨ns, h, h2⟩
    rw [intsD_some h]
    simpa [nameB] using h2
def lenOk (d : PyData) : Prop := match d with | .list ds => ds.length ≤ 4000 | _ => True
theorem unlike_any {d : PyData} {w : Pw} (hl : lenOk d) : F_are_unlike_names [.val d] w = .ok (.val (.bool (unlikeB d))) w := by
  cases d with
  | list ds =>
    have hl : ds.length ≤ 4000 := hl
    have e : fLc (fLstI (fVar 0)) (bName 1) fYes e_are_unlike_names_1 [1] ⟨[.val (.list ds), .no], w⟩ = .ok (.new (ds.map fun x => .bool (nameB x))) ⟨[.val (.list ds), .no], w⟩ := by
      refine lc_all (fun a : PyData => ⟨[.val (.list ds), .val a], w⟩) _ (f := id) (l := ds) (by simp -implicitDefEqProofs) (by omega) rfl (fun a _ => by rfl) (fun a _ => by rfl) (fun a _ => ?_)
      unfold e_are_unlike_names_1
      cases a <;> simp -implicitDefEqProofs [is_number_any, isI, nameB]
    by_cases h : ds.all nameB = true
    · obtain ⟨ns, e1, e2⟩ := names_iff.mp h
      have h' : (ds.map nameB).all id = true := by simpa using h
      have el : ds.length = ns.length := by rw [intsD_some e1]; simp
      have eu : unlikeB (.list ds) = decide ns.Nodup := by
        show (match intsD ds with | some ns => decide (ns.Nodup ∧ ∀ x ∈ ns, 0 ≤ x) | none => false) = _
        rw [e1]
        simp
        exact fun _ => e2
      have hl2 : ns.length ≤ 4000 := by omega
      have en := nub_dec (ns := ns)
      unfold F_are_unlike_names p_are_unlike_names
      simp only [x_runF]
      simp -implicitDefEqProofs [e, boolsD_map', h', e1, hl2, el, en, eu]
    · have h' : (ds.map nameB).all id = false := by simpa using h
      have eu : unlikeB (.list ds) = false := by
        rw [Bool.eq_false_iff]
        intro z
        unfold unlikeB at z
        dsimp only at z
        split at z
        · rename_i ns e1
          exact h (names_iff.mpr ⟨ns, e1, (of_decide_eq_true z).2⟩)
        · cases z
      unfold F_are_unlike_names p_are_unlike_names
      simp only [x_runF]
      simp -implicitDefEqProofs [e, boolsD_map', h', eu]
  | _ =>
    unfold F_are_unlike_names p_are_unlike_names
    simp only [x_runF]
    simp -implicitDefEqProofs [unlikeB]

instance (ns : List Int) : Decidable (Rank ns) := Classical.propDecidable _
def rankB : PyData → Bool
  | .list ds => match intsD ds with
    | some ns => decide (Rank ns)
    | none => false
  | _ => false
theorem rankB_ints {ns : List Int} : rankB (.list (ns.map .int)) = decide (Rank ns) := by
  show (match intsD (ns.map .int) with | some ns => decide (Rank ns) | none => false) = _
  rw [intsD_map]
theorem rankB_some {d : PyData} (h : rankB d = true) : ∃ ns : List Int, d = .list (ns.map .int) ∧ Rank ns := by
  cases d with
  | list ds =>
    have h : (match intsD ds with | some ns => decide (Rank ns) | none => false) = true := h
    split at h
    · rename_i ns e
      exact ⟨ns, by rw [intsD_some e], of_decide_eq_true h⟩
    · cases h
  | _ => cases h
theorem is_ranking_any {d : PyData} {w : Pw} (hl : lenOk d) : F_is_ranking [.val d] w = .ok (.val (.bool (rankB d))) w := by
  have hu := unlike_any (w := w) hl
  cases d with
  | list ds =>
    have hl : ds.length ≤ 4000 := hl
    cases e : intsD ds with
    | none =>
      have e1 : unlikeB (.list ds) = false := by
        show (match intsD ds with | some ns => decide (ns.Nodup ∧ ∀ x ∈ ns, 0 ≤ x) | none => false) = _
        rw [e]
      have e2 : rankB (.list ds) = false := by
        show (match intsD ds with | some ns => decide (Rank ns) | none => false) = _
        rw [e]
      rw [e1] at hu
      unfold F_is_ranking p_is_ranking
      simp only [x_runF]
      simp -implicitDefEqProofs [hu, e2]
    | some ns =>
      obtain rfl := intsD_some e
      have e1 : unlikeB (.list (ns.map .int)) = decide (ns.Nodup ∧ ∀ x ∈ ns, 0 ≤ x) := by
        show (match intsD (ns.map .int) with | some ns => decide (ns.Nodup ∧ ∀ x ∈ ns, 0 ≤ x) | none => false) = _
        rw [e]
      rw [e1] at hu
      rw [rankB_ints]
      by_cases h1 : ns.Nodup ∧ ∀ x ∈ ns, 0 ≤ x
      · have hd : decide (ns.Nodup ∧ ∀ x ∈ ns, 0 ≤ x) = true := decide_eq_true h1
        rw [hd] at hu
        by_cases h2 : 0 < ns.length
        · have er : decide (Rank ns) = decide ((ns.length : Int) ≤ 10) := by
            rw [decide_eq_decide]
            unfold Rank
            constructor
            · rintro ⟨_, _, _, h⟩; omega
            · intro h; exact ⟨h1.1, h1.2, h2, by omega⟩
          unfold F_is_ranking p_is_ranking
          simp only [x_runF]
          simp -implicitDefEqProofs [hu, h2, er]
        · have er : decide (Rank ns) = false := decide_eq_false fun z => h2 z.2.2.1
          unfold F_is_ranking p_is_ranking
          simp only [x_runF]
          simp -implicitDefEqProofs [hu, h2, er]
      · have hd : decide (ns.Nodup ∧ ∀ x ∈ ns, 0 ≤ x) = false := decide_eq_false h1
        have er : decide (Rank ns) = false := decide_eq_false fun z => h1 ⟨z.1, z.2.1⟩
        rw [hd] at hu
        unfold F_is_ranking p_is_ranking
        simp only [x_runF]
        simp -implicitDefEqProofs [hu, er]
  | _ =>
    unfold F_is_ranking p_is_ranking
    simp only [x_runF]
    simp -implicitDefEqProofs [hu, unlikeB, rankB]

end DL

noncomputable section
namespace DL
open PySem L2

/-! lists of lists in order -/
def llD (x : List Int) : PyData := .list (x.map .int)
theorem llD_inj {x y : List Int} (h : llD x = llD y) : x = y := by
  unfold llD at h
  injection h with h
  exact map_int_inj.mp h
def leLL (a b : List Int) : Bool := PySem.W.sortLe (PyProof.Rows.listOrd PyProof.Rows.itemOrd) false PySem.W.keyToks (llD a) (llD b)
def sortLL (ls : List (List Int)) : List (List Int) := ls.mergeSort leLL
end DL

noncomputable section
namespace DL
open PySem L2
def e_cut_down_1 : M R := fOp (lift2 inO) (fVar 2) (fVar 0)
abbrev l_cut_down_1 : M R := fLc (fLstI (fVar 1)) (bName 2) fYes (e_cut_down_1) [2]
def t_cut_down_2 : M Bool := fB (fOp (lift2 inO) (fVar 2) (fVar 1))
def e_cut_down_3 : M R := fVar 2
abbrev l_cut_down_3 : M R := fLc (fLstI (fVar 0)) (bName 2) (t_cut_down_2) (e_cut_down_3) [2]
def p_cut_down : DSt → Flow := fseq (fDrop (fUser F_must_be_ranking (fCons (fVar 0) fNil))) (fseq (fIfS (fOr (fB (fOp (lift2 ltO) (fCall lenO (pCons (fVar 1) fNil)) (fC (.int 1)))) (fNot (fB (fCall allO (pCons (fLc (fLstI (fVar 1)) (bName 2) fYes (e_cut_down_1) [2]) fNil))))) (fRaise "NoNames") fnext) (fRet (fLc (fLstI (fVar 0)) (bName 2) (t_cut_down_2) (e_cut_down_3) [2])))
def F_cut_down : List R → Pw → FRes := runF 3 2 p_cut_down
/-! cutting down -/
def cutL (r some : List Int) : List Int := r.filter fun x => decide (x ∈ some)
end DL

noncomputable section
namespace DL
open PySem L2

/-! what falls is taken from the ends -/
end DL

noncomputable section
namespace DL
open PySem L2
def e_grown_1 : M R := fOp (lift2 addO) (fLst (fCons (fVar 2) fNil)) (fVar 3)
abbrev l_grown_1 : M R := fLc (fLstI (fVar 1)) (bName 3) fYes (e_grown_1) [3]
def e_grown_2 : M R := fOp (lift2 addO) (fVar 3) (fLst (fCons (fVar 2) fNil))
abbrev l_grown_2 : M R := fLc (fLstI (fVar 1)) (bName 3) fYes (e_grown_2) [3]
def b_grown_3 : DSt → Flow := fSet 1 (fOp (lift2 addO) (fLc (fLstI (fVar 1)) (bName 3) fYes (e_grown_1) [3]) (fLc (fLstI (fVar 1)) (bName 3) fYes (e_grown_2) [3]))
abbrev o_grown_3 : List PyData → DSt → Flow := loopF (bName 2) b_grown_3
def p_grown : DSt → Flow := fseq (fSet 1 (fLst (fCons (fSlice (fVar 0) fNoPart (fPart (fC (.int 1)))) fNil))) (fseq (fFor (fLstI (fSlice (fVar 0) (fPart (fC (.int 1))) fNoPart)) (bName 2) b_grown_3) (fRet (fCall sortedO (pCons (fVar 1) fNil))))
def F_grown : List R → Pw → FRes := runF 4 1 p_grown
def e_is_folk_1 : M R := fUser F_is_ranking (fCons (fVar 1) fNil)
abbrev l_is_folk_1 : M R := fLc (fLstI (fVar 0)) (bName 1) fYes (e_is_folk_1) [1]
def e_is_folk_2 : M R := fOp (lift2 eqO) (fCall sortedO (pCons (fVar 1) fNil)) (fCall sortedO (pCons (fOp (lift2 ixO) (fVar 0) (fC (.int 0))) fNil))
abbrev l_is_folk_2 : M R := fLc (fLstI (fVar 0)) (bName 1) fYes (e_is_folk_2) [1]
def p_is_folk : DSt → Flow := fseq (fIfS (fOr (fNot (fB (fIsi "list" (fVar 0)))) (fOr (fB (fOp (lift2 ltO) (fCall lenO (pCons (fVar 0) fNil)) (fC (.int 1)))) (fB (fOp (lift2 gtO) (fCall lenO (pCons (fVar 0) fNil)) (fC (.int 20)))))) (fRet (fC (.bool false))) fnext) (fseq (fIfS (fNot (fB (fCall allO (pCons (fLc (fLstI (fVar 0)) (bName 1) fYes (e_is_folk_1) [1]) fNil)))) (fRet (fC (.bool false))) fnext) (fRet (fCall allO (pCons (fLc (fLstI (fVar 0)) (bName 1) fYes (e_is_folk_2) [1]) fNil))))
def F_is_folk : List R → Pw → FRes := runF 2 1 p_is_folk
def p_must_be_folk : DSt → Flow := fIfS (fNot (fB (fUser F_is_folk (fCons (fVar 0) fNil)))) (fRaise "NoFolk") fnext
def F_must_be_folk : List R → Pw → FRes := runF 1 1 p_must_be_folk
def e_lines_for_1 : M R := fUser F_does_fall (fCons (fVar 1) (fCons (fVar 2) fNil))
abbrev l_lines_for_1 : M R := fLc (fLstI (fVar 0)) (bName 2) fYes (e_lines_for_1) [2]
def t_lines_for_2 : M Bool := fB (fCall allO (pCons (fLc (fLstI (fVar 0)) (bName 2) fYes (e_lines_for_1) [2]) fNil))
def e_lines_for_3 : M R := fVar 1
abbrev l_lines_for_3 : M R := fLc (fLstI (fUser F_grown (fCons (fOp (lift2 ixO) (fVar 0) (fC (.int 0))) fNil))) (bName 1) (t_lines_for_2) (e_lines_for_3) [1]
def p_lines_for : DSt → Flow := fRet (fLc (fLstI (fUser F_grown (fCons (fOp (lift2 ixO) (fVar 0) (fC (.int 0))) fNil))) (bName 1) (t_lines_for_2) (e_lines_for_3) [1])
def F_lines_for : List R → Pw → FRes := runF 3 1 p_lines_for
def p_all_lines : DSt → Flow := fseq (fDrop (fUser F_must_be_folk (fCons (fVar 0) fNil))) (fRet (fUser F_lines_for (fCons (fVar 0) fNil)))
def F_all_lines : List R → Pw → FRes := runF 1 1 p_all_lines
/-! lines made from the best name outwards -/
def grS (F : List (List Int)) (a : Int) : List (List Int) := F.map (fun l => a :: l) ++ F.map fun l => l ++ [a]
def grL (r : List Int) : List (List Int) := (r.drop 1).foldl grS [r.take 1]
def grownL (r : List Int) : List (List Int) := sortLL (grL r)
end DL

noncomputable section
namespace DL
open PySem L2

def Folk (f : List (List Int)) : Prop := 0 < f.length ∧ f.length ≤ 20 ∧ ∀ r ∈ f, Rank r ∧ ∀ q ∈ f, q.Perm r
theorem is_folk_ok {f : List (List Int)} {w : Pw} (h : Folk f) : F_is_folk [.val (.list ((f).map llD))] w = .ok (.val (.bool true)) w := by
  obtain ⟨h0, h1, h2⟩ := h
  obtain ⟨a, f', rfl⟩ := List.exists_cons_of_ne_nil (List.length_pos_iff.mp h0)
  obtain ⟨f, hf⟩ : ∃ f, f = a :: f' := ⟨_, rfl⟩
  rw [← hf] at h0 h1 h2 ⊢
  have ma : a ∈ f := by rw [hf]; exact List.mem_cons_self
  have e0 : (f.map llD)[0]? = some (llD a) := by rw [hf]; rfl
  have e0' : f[0]? = some a := by rw [hf]; rfl
  have e1 : l_is_folk_1 ⟨[.val (.list ((f).map llD)), .no], w⟩ = .ok (.new (f.map fun _ => .bool true)) ⟨[.val (.list ((f).map llD)), .no], w⟩ := by
    refine lc_all (fun x : List Int => ⟨[.val (.list ((f).map llD)), .val (llD x)], w⟩) _ (f := llD) (l := f) (by simp -implicitDefEqProofs) (by omega) rfl (fun a _ => by rfl) (fun a _ => by rfl) (fun x hx => ?_)
    unfold e_is_folk_1
    simp -implicitDefEqProofs [llD, is_ranking_ok (h2 x hx).1]
  have e2 : l_is_folk_2 ⟨[.val (.list ((f).map llD)), .no], w⟩ = .ok (.new (f.map fun _ => .bool true)) ⟨[.val (.list ((f).map llD)), .no], w⟩ := by
    refine lc_all (fun x : List Int => ⟨[.val (.list ((f).map llD)), .val (llD x)], w⟩) _ (f := llD) (l := f) (by simp -implicitDefEqProofs) (by omega) rfl (fun a _ => by rfl) (fun a _ => by rfl) (fun x hx => ?_)
    have hs := sortI_perm_eq ((h2 x hx).2 a ma)
    unfold e_is_folk_2
    simp -implicitDefEqProofs [e0', llD, hs]
  have eb : boolsD (f.map fun _ => PyData.bool true) = some (f.map fun _ => true) := boolsD_map' (f := fun _ => true)
  have ea : (f.map fun _ => true).all id = true := by simp
  have c1 : ¬ ((f.length : Nat) : Int) < 1 := by omega
  have c2 : ¬ (20 : Int) < (f.length : Nat) := by omega
  have c3 : f ≠ [] := by rw [hf]; simp
  unfold F_is_folk p_is_folk
  simp only [x_runF]
  simp -implicitDefEqProofs [e1, e2, eb, ea, c1, c2, c3]
theorem must_folk_ok {f : List (List Int)} {w : Pw} (h : Folk f) : F_must_be_folk [.val (.list ((f).map llD))] w = .ok (.val .none) w := by
  unfold F_must_be_folk p_must_be_folk
  simp only [x_runF]
  simp -implicitDefEqProofs [is_folk_ok h]
def linesF (f : List (List Int)) : List (List Int) := (grownL (f.headD [])).filter fun ℓ => f.all fun r => fallB ℓ r
end DL

noncomputable section
namespace DL
open PySem L2

def bdd : Nat → PyData → Prop
  | _, .none | _, .bool _ | _, .int _ | _, .str _ => True
  | n + 1, .list ds => ds.length ≤ 1000 ∧ ∀ d ∈ ds, bdd n d
  | n + 1, .tuple ds => ds.length ≤ 1000 ∧ ∀ d ∈ ds, bdd n d
  | _, _ => False
@[simp] theorem bdd_none {n : Nat} : bdd n .none := by cases n <;> simp [bdd]
@[simp] theorem bdd_bool {n : Nat} {b : Bool} : bdd n (.bool b) := by cases n <;> simp [bdd]
@[simp] theorem bdd_int {n : Nat} {b : Int} : bdd n (.int b) := by cases n <;> simp [bdd]
@[simp] theorem bdd_str {n : Nat} {b : Str} : bdd n (.str b) := by cases n <;> simp [bdd]
@[simp] theorem bdd_list {n : Nat} {ds : List PyData} : bdd (n + 1) (.list ds) ↔ ds.length ≤ 1000 ∧ ∀ d ∈ ds, bdd n d := by simp [bdd]
@[simp] theorem bdd_tuple {n : Nat} {ds : List PyData} : bdd (n + 1) (.tuple ds) ↔ ds.length ≤ 1000 ∧ ∀ d ∈ ds, bdd n d := by simp [bdd]
theorem bdd_up : ∀ {n m : Nat} {d : PyData}, n ≤ m → bdd n d → bdd m d
  | n, m, .none, _, _ => by simp
  | n, m, .bool _, _, _ => by simp
  | n, m, .int _, _, _ => by simp
  | n, m, .str _, _, _ => by simp
  | n + 1, m + 1, .list ds, h, b => by
    rw [bdd_list] at b ⊢
    exact ⟨b.1, fun d hd => bdd_up (by omega) (b.2 d hd)⟩
  | n + 1, m + 1, .tuple ds, h, b => by
    rw [bdd_tuple] at b ⊢
    exact ⟨b.1, fun d hd => bdd_up (by omega) (b.2 d hd)⟩
  | 0, _, .list ds, _, b => by unfold bdd at b; exact b.elim
  | 0, _, .tuple ds, _, b => by unfold bdd at b; exact b.elim
  | 0, _, .dict _, _, b => by unfold bdd at b; exact b.elim
  | _ + 1, _, .dict _, _, b => by unfold bdd at b; exact b.elim
  | _ + 1, 0, .list _, h, _ => by omega
  | _ + 1, 0, .tuple _, h, _ => by omega
theorem plainAll_of {ds : List PyData} (h : ∀ d ∈ ds, d.plain = true) : PyData.plainAll ds = true := by
  induction ds with
  | nil => rfl
  | cons d ds ih => simp [PyData.plainAll, h d List.mem_cons_self, ih fun d hd => h d (List.mem_cons_of_mem _ hd)]
theorem bdd_plain : ∀ {n : Nat} {d : PyData}, bdd n d → d.plain = true
  | _, .none, _ | _, .bool _, _ | _, .int _, _ | _, .str _, _ => rfl
  | n + 1, .list ds, b => by
    rw [bdd_list] at b
    simp only [PyData.plain]
    exact plainAll_of fun d hd => bdd_plain (b.2 d hd)
  | n + 1, .tuple ds, b => by
    rw [bdd_tuple] at b
    simp only [PyData.plain]
    exact plainAll_of fun d hd => bdd_plain (b.2 d hd)
  | 0, .list ds, b => by unfold bdd at b; exact b.elim
  | 0, .tuple ds, b => by unfold bdd at b; exact b.elim
  | 0, .dict _, b => by unfold bdd at b; exact b.elim
  | _ + 1, .dict _, b => by unfold bdd at b; exact b.elim
theorem bdd_dep : ∀ {n : Nat} {d : PyData}, bdd n d → d.depth ≤ n
  | _, .none, _ | _, .bool _, _ | _, .int _, _ | _, .str _, _ => by simp [PyData.depth]
  | n + 1, .list ds, b => by
    rw [bdd_list] at b
    have : PyData.depthAll ds ≤ n := depthAll_le.mpr fun d hd => bdd_dep (b.2 d hd)
    simp [PyData.depth]
    omega
  | n + 1, .tuple ds, b => by
    rw [bdd_tuple] at b
    have : PyData.depthAll ds ≤ n := depthAll_le.mpr fun d hd => bdd_dep (b.2 d hd)
    simp [PyData.depth]
    omega
  | 0, .list ds, b => by unfold bdd at b; exact b.elim
  | 0, .tuple ds, b => by unfold bdd at b; exact b.elim
  | 0, .dict _, b => by unfold bdd at b; exact b.elim
  | _ + 1, .dict _, b => by unfold bdd at b; exact b.elim
theorem bdd_len {n : Nat} {d : PyData} (b : bdd n d) : lenOk d := by
  cases d with
  | list ds =>
    cases n with
    | zero => unfold bdd at b; exact b.elim
    | succ n => rw [bdd_list] at b; exact Nat.le_trans b.1 (by omega)
  | _ => trivial
theorem bdd_items {n : Nat} {ds : List PyData} (b : bdd n (.list ds)) : ∀ d ∈ ds, bdd n d := by
  cases n with
  | zero => unfold bdd at b; exact b.elim
  | succ n => rw [bdd_list] at b; exact fun d hd => bdd_up (Nat.le_succ n) (b.2 d hd)
theorem bdd_litems {n : Nat} {ds : List PyData} (b : bdd n (.list ds)) : ds.length ≤ 1000 := by
  cases n with
  | zero => unfold bdd at b; exact b.elim
  | succ n => rw [bdd_list] at b; exact b.1
theorem neO_self {n : Nat} {d : PyData} (b : bdd n d) (hn : n ≤ 60) : neO d d = some (.val (.bool false)) := by
  unfold neO
  have := bdd_dep b
  rw [if_pos (by rw [Nat.min_self]; omega), PySem.SeqAt.eqv_refl_plain d (bdd_plain b)]
  rfl
/-! ### a folk -/
def folkB (d : PyData) : Bool := @decide (∃ f : List (List Int), d = .list (f.map llD) ∧ Folk f) (Classical.propDecidable _)
theorem folkB_iff {d : PyData} : folkB d = true ↔ ∃ f : List (List Int), d = .list (f.map llD) ∧ Folk f := by simp [folkB]
theorem rank_all : ∀ {ds : List PyData}, ds.all rankB = true → ∃ f : List (List Int), ds = f.map llD ∧ ∀ r ∈ f, Rank r
  | [], _ => ⟨[], rfl, by simp⟩
  | d :: ds, h => by
    simp only [List.all_cons, Bool.and_eq_true] at h
    obtain ⟨ns, rfl, hr⟩ := rankB_some h.1
    obtain ⟨f, rfl, hf⟩ := rank_all h.2
    exact ⟨ns :: f, rfl, fun r hm => by
      rcases List.mem_cons.mp hm with rfl | hm
      · exact hr
      · exact hf r hm⟩
theorem sortI_inj {a b : List Int} (h : sortI a = sortI b) : a.Perm b := (sortI_perm a).symm.trans (h ▸ sortI_perm b)
theorem is_folk_any {n : Nat} {d : PyData} {w : Pw} (b : bdd n d) : F_is_folk [.val d] w = .ok (.val (.bool (folkB d))) w := by
  by_cases hF : ∃ f : List (List Int), d = .list (f.map llD) ∧ Folk f
  · obtain ⟨f, rfl, hf⟩ := hF
    rw [folkB_iff.mpr ⟨f, rfl, hf⟩]
    exact is_folk_ok hf
  have hB : folkB d = false := by
    rw [Bool.eq_false_iff]
    exact fun z => hF (folkB_iff.mp z)
  rw [hB]
  cases d with
  | list ds =>
    have hl := bdd_litems b
    by_cases c1 : ((ds.length : Nat) : Int) < 1
    · unfold F_is_folk p_is_folk
      simp only [x_runF]
      simp -implicitDefEqProofs [c1]
    by_cases c2 : (20 : Int) < (ds.length : Nat)
    · unfold F_is_folk p_is_folk
      simp only [x_runF]
      simp -implicitDefEqProofs [c1, c2]
    have e1 : l_is_folk_1 ⟨[.val (.list ds), .no], w⟩ = .ok (.new (ds.map fun x => .bool (rankB x))) ⟨[.val (.list ds), .no], w⟩ := by
      refine lc_all (fun x : PyData => ⟨[.val (.list ds), .val x], w⟩) _ (f := id) (l := ds) (by simp -implicitDefEqProofs) (by omega) rfl (fun a _ => by rfl) (fun a _ => by rfl) (fun x hx => ?_)
      unfold e_is_folk_1
      simp -implicitDefEqProofs [is_ranking_any (bdd_len (bdd_items b x hx))]
    by_cases ha : ds.all rankB = true
    · have ha' : (ds.map rankB).all id = true := by simpa using ha
      obtain ⟨f, rfl, hf⟩ := rank_all ha
      have hl2 : f.length = (f.map llD).length := by simp
      have h0 : 0 < f.length := by omega
      obtain ⟨a, ea⟩ : ∃ a, f[0]? = some a := ⟨f[0], List.getElem?_eq_getElem h0⟩
      have e2 : l_is_folk_2 ⟨[.val (.list ((f).map llD)), .no], w⟩ = .ok (.new (f.map fun x => .bool (decide (sortI x = sortI a)))) ⟨[.val (.list ((f).map llD)), .no], w⟩ := by
        refine lc_all (fun x : List Int => ⟨[.val (.list ((f).map llD)), .val (llD x)], w⟩) _ (f := llD) (l := f) (by simp -implicitDefEqProofs) (by omega) rfl (fun a _ => by rfl) (fun a _ => by rfl) (fun x hx => ?_)
        unfold e_is_folk_2
        simp -implicitDefEqProofs [ea, llD]
      have hn : (f.map fun x => decide (sortI x = sortI a)).all id = false := by
        rw [Bool.eq_false_iff]
        intro z
        simp at z
        refine hF ⟨f, rfl, h0, by omega, fun r hr => ⟨hf r hr, fun q hq => ?_⟩⟩
        exact sortI_inj ((z q hq).trans (z r hr).symm)
      have e1' : l_is_folk_1 ⟨[.val (.list ((f).map llD)), .no], w⟩ = .ok (.new (f.map fun _ => .bool true)) ⟨[.val (.list ((f).map llD)), .no], w⟩ := by
        rw [e1, List.map_map]
        congr 2
        refine List.map_congr_left fun r hr => ?_
        show PyData.bool (rankB (.list (r.map .int))) = _
        rw [rankB_ints, decide_eq_true (hf r hr)]
      have eb : boolsD (f.map fun _ => PyData.bool true) = some (f.map fun _ => true) := boolsD_map' (f := fun _ => true)
      have et : (f.map fun _ => true).all id = true := by simp
      rw [← hl2] at c1 c2
      unfold F_is_folk p_is_folk
      simp only [x_runF]
      simp -implicitDefEqProofs [c1, c2, e1', eb, et, boolsD_map', e2, hn]
    · have ha' : (ds.map rankB).all id = false := by simpa using ha
      unfold F_is_folk p_is_folk
      simp only [x_runF]
      simp -implicitDefEqProofs [c1, c2, e1, boolsD_map', ha']
  | _ =>
    unfold F_is_folk p_is_folk
    simp only [x_runF]
    simp -implicitDefEqProofs

end DL

noncomputable section
namespace DL
open PySem L2

theorem Dig.take {ds : List Int} (h : Dig ds) (k : Nat) : Dig (ds.take k) := fun d hd => h d (List.mem_of_mem_take hd)
theorem Dig.drop {ds : List Int} (h : Dig ds) (k : Nat) : Dig (ds.drop k) := fun d hd => h d (List.mem_of_mem_drop hd)
theorem line2_ok {ns : List Int} {j m : Nat} {w : Pw} (hl : ns.length ≤ 63) (hj : j ≤ 1000) (h0 : 0 < m) (hm : m ≤ 100) : ∃ L : List Int, F_law_line_v2 [.ob (.scr ns), .val (.int ((j : Nat) : Int)), .val (.int ((m : Nat) : Int))] w = .ok (.new (L.map .int)) w ∧ L.length = m ∧ Names L := by
  obtain ⟨ds, e1, l1, d1⟩ := draws_ok (w := w) (j := j) (m := 2 * m) hl hj (by omega)
  have c1 : cutD (ds.map PyData.int) none (some (m : Int)) = (ds.take m).map .int := by rw [cutD_map, cut_to]
  have c2 : cutD (ds.map PyData.int) (some (m : Int)) none = (ds.drop m).map .int := by rw [cutD_map, cut_from]
  obtain ⟨A, hA⟩ : ∃ A, ds.take m = A := ⟨_, rfl⟩
  obtain ⟨B, hB⟩ : ∃ B, ds.drop m = B := ⟨_, rfl⟩
  have lA : A.length = m := by rw [← hA, List.length_take]; omega
  have lB : B.length = m := by rw [← hB, List.length_drop]; omega
  obtain ⟨N, e2, l2, n2⟩ := names4_ok (w := w) (ds := A) (by rw [← hA]; exact d1.take m) (by omega) (by omega)
  obtain ⟨L, e3, p3⟩ := shuffled_ok (w := w) (N := N) (ds := B) (by rw [← hB]; exact d1.drop m) (by omega) (by omega)
  rw [hA] at c1
  rw [hB] at c2
  have em : mulO (.int 2) (.int (m : Int)) = some (.val (.int (2 * (m : Int)))) := mul_ok (by omega) (by omega) (by omega) (by omega)
  have e1' : F_law_draws [.ob (.scr ns), .val (.int ((j : Nat) : Int)), .val (.int (2 * (m : Int)))] w = .ok (.new (ds.map .int)) w := by
    rw [show (2 * (m : Int)) = ((2 * m : Nat) : Int) by simp]; exact e1
  refine ⟨L, ?_, by rw [p3.length_eq]; omega, n2.perm p3⟩
  unfold F_law_line_v2 p_law_line_v2
  simp only [x_runF]
  simp -implicitDefEqProofs [em, e1', c1, c2, e2, e3]
def Hands (L : List Int) (f : List (List Int)) (fr : Prop) : Prop := ∀ r ∈ f, r.Perm L ∧ (fr → ∃ bs : List Bool, bs.length + 1 = L.length ∧ r = (pick L bs).reverse)
theorem weights_ok {ns : List Int} {j h : Nat} {w : Pw} (hl : ns.length ≤ 63) (hj : j ≤ 100) (hh : h ≤ 100) : ∃ ws : List Int, F_law_weights [.ob (.scr ns), .val (.int ((j : Nat) : Int)), .val (.int ((h : Nat) : Int))] w = .ok (.new (ws.map .int)) w ∧ ws.length = h ∧ ∀ x ∈ ws, 1 ≤ x ∧ x ≤ 1000000000000000000000000000000 := by
  obtain ⟨ds, e1, l1, d1⟩ := draws_ok (w := w) (j := j) (m := h) hl (by omega) (by omega)
  have pick4 : ∀ d : Int, ∃ x : Int, 0 ≤ d → d < 1000000000 → atI [PyData.int 1, .int (1 + d / 4 % 9), .int (1 + d / 4 % 2), .int (1000000000000000000000000000000 - 1 - d)] (d % 4) = some (.int x) ∧ 1 ≤ x ∧ x ≤ 1000000000000000000000000000000 := by
    intro d
    have : d % 4 = 0 ∨ d % 4 = 1 ∨ d % 4 = 2 ∨ d % 4 = 3 := by omega
    rcases this with q | q | q | q <;> rw [q]
    · exact ⟨1, fun _ _ => ⟨by simp, by omega, by omega⟩⟩
    · exact ⟨1 + d / 4 % 9, fun _ _ => ⟨by simp, by omega, by omega⟩⟩
    · exact ⟨1 + d / 4 % 2, fun _ _ => ⟨by simp, by omega, by omega⟩⟩
    · exact ⟨1000000000000000000000000000000 - 1 - d, fun _ _ => ⟨at3, by omega, by omega⟩⟩
  obtain ⟨g, hg⟩ : ∃ g : Int → Int, ∀ d, 0 ≤ d → d < 1000000000 → atI [PyData.int 1, .int (1 + d / 4 % 9), .int (1 + d / 4 % 2), .int (1000000000000000000000000000000 - 1 - d)] (d % 4) = some (.int (g d)) ∧ 1 ≤ g d ∧ g d ≤ 1000000000000000000000000000000 := Classical.skolem.mp pick4
  refine ⟨ds.map g, ?_, by simpa using l1, fun x hx => ?_⟩
  · have s4 : leS 4 := size_le (by omega)
    have el : l_law_weights_1 ⟨[.ob (.scr ns), .val (.int ((j : Nat) : Int)), .val (.int ((h : Nat) : Int)), .own (ds.map .int), .no], w⟩ = .ok (.new (ds.map fun d => .int (g d))) ⟨[.ob (.scr ns), .val (.int ((j : Nat) : Int)), .val (.int ((h : Nat) : Int)), .val (.list (ds.map .int)), .no], w⟩ := by
      refine lc_all (fun x : Int => ⟨[.ob (.scr ns), .val (.int ((j : Nat) : Int)), .val (.int ((h : Nat) : Int)), .val (.list (ds.map .int)), .val (.int (x))], w⟩) _ (f := .int) (l := ds) (by simp -implicitDefEqProofs) (by omega) rfl (fun a _ => by rfl) (fun a _ => by rfl) (fun x hx => ?_)
      have := (hg x (d1 x hx).1 (d1 x hx).2).1
      unfold e_law_weights_1
      simp -implicitDefEqProofs [s4]
      simp -implicitDefEqProofs at this
      simp -implicitDefEqProofs [this]
    unfold F_law_weights p_law_weights
    simp only [x_runF]
    simp -implicitDefEqProofs [e1, el]
    try rfl
  · obtain ⟨d, hd, rfl⟩ := List.mem_map.mp hx
    exact (hg d (d1 d hd).1 (d1 d hd).2).2

end DL

noncomputable section
namespace DL
open PySem L2
def b_lead_1 : DSt → Flow := fIfS (fB (fUser F_is_ahead (fCons (fVar 5) (fCons (fVar 2) (fCons (fVar 3) fNil))))) (fAug 4 (fun a b => a + b) (fVar 6)) (fAug 4 (fun a b => a - b) (fVar 6))
abbrev o_lead_1 : List PyData → DSt → Flow := loopF (bTup 2 (bCons (bName 5) (bCons (bName 6) bNil))) b_lead_1
def p_lead : DSt → Flow := fseq (fSet 4 (fC (.int 0))) (fseq (fFor (fZip (fCons (fVar 0) (fCons (fVar 1) fNil))) (bTup 2 (bCons (bName 5) (bCons (bName 6) bNil))) b_lead_1) (fRet (fVar 4)))
def F_lead : List R → Pw → FRes := runF 7 4 p_lead
def e_must_be_weighed_1 : M R := fAndV (fUser F_is_number (fCons (fVar 2) fNil)) (fOp (lift2 geO) (fVar 2) (fC (.int 1)))
abbrev l_must_be_weighed_1 : M R := fLc (fLstI (fVar 1)) (bName 2) fYes (e_must_be_weighed_1) [2]
def p_must_be_weighed : DSt → Flow := fseq (fDrop (fUser F_must_be_folk (fCons (fVar 0) fNil))) (fseq (fIfS (fOr (fNot (fB (fIsi "list" (fVar 1)))) (fB (fOp (lift2 neO) (fCall lenO (pCons (fVar 1) fNil)) (fCall lenO (pCons (fVar 0) fNil))))) (fRaise "NoWeights") fnext) (fIfS (fNot (fB (fCall allO (pCons (fLc (fLstI (fVar 1)) (bName 2) fYes (e_must_be_weighed_1) [2]) fNil)))) (fRaise "NoWeights") fnext))
def F_must_be_weighed : List R → Pw → FRes := runF 3 2 p_must_be_weighed
def b_law_lead_1 : DSt → Flow := fSet 4 (fOp (lift2 addO) (fVar 4) (fOp (lift2 ixO) (fLst (fCons (fVar 6) (fCons (fOp (lift2 subO) (fC (.int 0)) (fVar 6)) fNil))) (fCall intO (pCons (fOp (lift2 gtO) (fIndex (fVar 5) (fVar 2)) (fIndex (fVar 5) (fVar 3))) fNil))))
abbrev o_law_lead_1 : List PyData → DSt → Flow := loopF (bTup 2 (bCons (bName 5) (bCons (bName 6) bNil))) b_law_lead_1
def p_law_lead : DSt → Flow := fseq (fSet 4 (fC (.int 0))) (fseq (fFor (fZip (fCons (fVar 0) (fCons (fVar 1) fNil))) (bTup 2 (bCons (bName 5) (bCons (bName 6) bNil))) b_law_lead_1) (fRet (fVar 4)))
def F_law_lead : List R → Pw → FRes := runF 7 4 p_law_lead
def p_margin : DSt → Flow := fseq (fDrop (fUser F_must_be_weighed (fCons (fVar 0) (fCons (fVar 1) fNil)))) (fseq (fIfS (fOr (fB (fOp (lift2 notInO) (fVar 2) (fOp (lift2 ixO) (fVar 0) (fC (.int 0))))) (fOr (fB (fOp (lift2 notInO) (fVar 3) (fOp (lift2 ixO) (fVar 0) (fC (.int 0))))) (fB (fOp (lift2 eqO) (fVar 2) (fVar 3))))) (fRaise "NoNames") fnext) (fRet (fUser F_lead (fCons (fVar 0) (fCons (fVar 1) (fCons (fVar 2) (fCons (fVar 3) fNil)))))))
def F_margin : List R → Pw → FRes := runF 4 4 p_margin
def e_law_copied_1 (rec : List R → Pw → FRes) : M R := fUser rec (fCons (fVar 1) fNil)
abbrev l_law_copied_1 (rec : List R → Pw → FRes) : M R := fLc (fLstI (fVar 0)) (bName 1) fYes ((e_law_copied_1 rec)) [1]
def e_law_copied_2 (rec : List R → Pw → FRes) : M R := fUser rec (fCons (fVar 1) fNil)
abbrev l_law_copied_2 (rec : List R → Pw → FRes) : M R := fLc (fLstI (fVar 0)) (bName 1) fYes ((e_law_copied_2 rec)) [1]
def p_law_copied (rec : List R → Pw → FRes) : DSt → Flow := fseq (fIfS (fB (fIsi "tuple" (fVar 0))) (fRet (fCall tupleO (pCons (fLc (fLstI (fVar 0)) (bName 1) fYes ((e_law_copied_1 rec)) [1]) fNil))) fnext) (fseq (fIfS (fB (fIsi "list" (fVar 0))) (fRet (fLc (fLstI (fVar 0)) (bName 1) fYes ((e_law_copied_2 rec)) [1])) fnext) (fRet (fVar 0)))
def F_law_copied : Nat → List R → Pw → FRes
  | 0 => runF 2 1 fnever
  | m + 1 => runF 2 1 (p_law_copied (F_law_copied m))
def fwD (p : List Int × Int) : PyData := .tuple [llD p.1, .int p.2]
def ledI (x y : Int) (p : List Int × Int) : Int := if p.1.idxOf x < p.1.idxOf y then p.2 else -p.2
def leadI (f : List (List Int)) (ws : List Int) (x y : Int) : Int := ((f.zip ws).map (ledI x y)).sum
def Wts (f : List (List Int)) (ws : List Int) : Prop := ws.length = f.length ∧ ∀ x ∈ ws, 1 ≤ x
theorem weighed_ok {f : List (List Int)} {ws : List Int} {w : Pw} (hf : Folk f) (hw : Wts f ws) : F_must_be_weighed [.val (.list ((f).map llD)), .val (.list ((ws).map .int))] w = .ok (.val .none) w := by
  have h20 := hf.2.1
  have el : l_must_be_weighed_1 ⟨[.val (.list ((f).map llD)), .val (.list ((ws).map .int)), .no], w⟩ = .ok (.new (ws.map fun x => .bool (decide (1 ≤ x)))) ⟨[.val (.list ((f).map llD)), .val (.list ((ws).map .int)), .no], w⟩ := by
    refine lc_all (fun x : Int => ⟨[.val (.list ((f).map llD)), .val (.list ((ws).map .int)), .val (.int (x))], w⟩) _ (f := .int) (l := ws) (by simp -implicitDefEqProofs) (by have := hw.1; omega) rfl (fun a _ => by rfl) (fun a _ => by rfl) (fun x hx => ?_)
    unfold e_must_be_weighed_1
    simp -implicitDefEqProofs
  have e3 : (ws.map fun x : Int => decide (1 ≤ x)).all id = true := by simpa using hw.2
  unfold F_must_be_weighed p_must_be_weighed
  simp only [x_runF]
  simp -implicitDefEqProofs [must_folk_ok hf, hw.1, el, boolsD_map', e3]
theorem whole_ok {d : PyData} {w : Pw} : F_law_whole [.val d] w = .ok (.val (.bool (isI d))) w := by
  unfold F_law_whole p_law_whole
  simp only [x_runF]
  cases d <;> simp -implicitDefEqProofs [isI]

end DL

noncomputable section
namespace DL
open PySem L2
def t_law_marks_1 : M Bool := fB (fVar 3)
def e_law_marks_2 : M R := fVar 2
abbrev l_law_marks_2 : M R := fLc (fLstI (fVar 1)) (bTup 2 (bCons (bName 2) (bCons (bName 3) bNil))) (t_law_marks_1) (e_law_marks_2) [2, 3]
def p_law_marks : DSt → Flow := fseq (fSet 1 (fLst (fCons (fTup (fCons (fC (.str "ranking")) (fCons (fIsX ["NoFit", "NoFolk", "NoLine", "NoNames", "NoNumber", "NoRanking"] "NoRanking" (fVar 0)) fNil))) (fCons (fTup (fCons (fC (.str "folk")) (fCons (fIsX ["NoFit", "NoFolk", "NoLine", "NoNames", "NoNumber", "NoRanking"] "NoFolk" (fVar 0)) fNil))) fNil)))) (fseq (fSet 1 (fOp (lift2 addO) (fVar 1) (fLst (fCons (fTup (fCons (fC (.str "names")) (fCons (fIsX ["NoFit", "NoFolk", "NoLine", "NoNames", "NoNumber", "NoRanking"] "NoNames" (fVar 0)) fNil))) (fCons (fTup (fCons (fC (.str "fit")) (fCons (fIsX ["NoFit", "NoFolk", "NoLine", "NoNames", "NoNumber", "NoRanking"] "NoFit" (fVar 0)) fNil))) fNil))))) (fseq (fSet 1 (fOp (lift2 addO) (fVar 1) (fLst (fCons (fTup (fCons (fC (.str "line")) (fCons (fIsX ["NoFit", "NoFolk", "NoLine", "NoNames", "NoNumber", "NoRanking"] "NoLine" (fVar 0)) fNil))) (fCons (fTup (fCons (fC (.str "number")) (fCons (fIsX ["NoFit", "NoFolk", "NoLine", "NoNames", "NoNumber", "NoRanking"] "NoNumber" (fVar 0)) fNil))) fNil))))) (fseq (fDrop (fApp 1 (fTup (fCons (fC (.str "none")) (fCons (fV (fNot (fB (fIsV ["NoFit", "NoFolk", "NoLine", "NoNames", "NoNumber", "NoRanking"] (fVar 0))))) fNil))))) (fRet (fLc (fLstI (fVar 1)) (bTup 2 (bCons (bName 2) (bCons (bName 3) bNil))) (t_law_marks_1) (e_law_marks_2) [2, 3])))))
def F_law_marks : List R → Pw → FRes := runF 4 1 p_law_marks
def tagOf (n : String) : Str := if n = "NoRanking" then "ranking" else if n = "NoFolk" then "folk" else if n = "NoNames" then "names" else if n = "NoFit" then "fit" else if n = "NoLine" then "line" else "number"
def tgD (p : Str × Bool) : PyData := .tuple [.str p.1, .bool p.2]
/-! ### looks that refuse -/
theorem is_line_any {d : PyData} {w : Pw} (hl : lenOk d) : F_is_line [.val d] w = .ok (.val (.bool (rankB d))) w := by
  unfold F_is_line p_is_line
  simp only [x_runF]
  simp -implicitDefEqProofs [is_ranking_any hl]
theorem must_line_no {d : PyData} {w : Pw} (hl : lenOk d) (h : rankB d = false) : F_must_be_line [.val d] w = .err ⟨"NoLine", none⟩ w := by
  have e := is_line_any (w := w) hl
  rw [h] at e
  unfold F_must_be_line p_must_be_line
  simp only [x_runF]
  simp -implicitDefEqProofs [e]
theorem must_folk_no {n : Nat} {d : PyData} {w : Pw} (b : bdd n d) (h : folkB d = false) : F_must_be_folk [.val d] w = .err ⟨"NoFolk", none⟩ w := by
  have e := is_folk_any (w := w) b
  rw [h] at e
  unfold F_must_be_folk p_must_be_folk
  simp only [x_runF]
  simp -implicitDefEqProofs [e]
end DL

noncomputable section
namespace DL
open PySem L2
def t_law_names_of_v2_1 : M Bool := fB (fVar 4)
def e_law_names_of_v2_2 : M R := fVar 3
abbrev l_law_names_of_v2_2 : M R := fLc (fZip (fCons (fVar 2) (fCons (fVar 1) fNil))) (bTup 2 (bCons (bName 3) (bCons (bName 4) bNil))) (t_law_names_of_v2_1) (e_law_names_of_v2_2) [3, 4]
def p_law_names_of_v2 : DSt → Flow := fseq (fSet 1 (fLst (fCons (fIsY ["NoFolk", "NoNames", "NoWeights"] "NoBack" (fVar 0)) (fCons (fIsY ["NoFolk", "NoNames", "NoWeights"] "NoFall" (fVar 0)) (fCons (fIsY ["NoFolk", "NoNames", "NoWeights"] "NoFit" (fVar 0)) fNil))))) (fseq (fSet 1 (fOp (lift2 addO) (fVar 1) (fLst (fCons (fIsY ["NoFolk", "NoNames", "NoWeights"] "NoFixed" (fVar 0)) (fCons (fIsX ["NoFolk", "NoNames", "NoWeights"] "NoFolk" (fVar 0)) (fCons (fIsY ["NoFolk", "NoNames", "NoWeights"] "NoHand" (fVar 0)) fNil)))))) (fseq (fSet 1 (fOp (lift2 addO) (fVar 1) (fLst (fCons (fIsY ["NoFolk", "NoNames", "NoWeights"] "NoLine" (fVar 0)) (fCons (fIsX ["NoFolk", "NoNames", "NoWeights"] "NoNames" (fVar 0)) (fCons (fIsY ["NoFolk", "NoNames", "NoWeights"] "NoNumber" (fVar 0)) fNil)))))) (fseq (fSet 1 (fOp (lift2 addO) (fVar 1) (fLst (fCons (fIsY ["NoFolk", "NoNames", "NoWeights"] "NoPaper" (fVar 0)) (fCons (fIsY ["NoFolk", "NoNames", "NoWeights"] "NoRanking" (fVar 0)) (fCons (fIsY ["NoFolk", "NoNames", "NoWeights"] "NoRow" (fVar 0)) fNil)))))) (fseq (fSet 1 (fOp (lift2 addO) (fVar 1) (fLst (fCons (fIsY ["NoFolk", "NoNames", "NoWeights"] "NoRule" (fVar 0)) (fCons (fIsY ["NoFolk", "NoNames", "NoWeights"] "NoText" (fVar 0)) (fCons (fIsY ["NoFolk", "NoNames", "NoWeights"] "NoTitle" (fVar 0)) fNil)))))) (fseq (fSet 1 (fOp (lift2 addO) (fVar 1) (fLst (fCons (fIsY ["NoFolk", "NoNames", "NoWeights"] "NoTops" (fVar 0)) (fCons (fIsY ["NoFolk", "NoNames", "NoWeights"] "NoTree" (fVar 0)) (fCons (fIsX ["NoFolk", "NoNames", "NoWeights"] "NoWeights" (fVar 0)) fNil)))))) (fseq (fSet 1 (fOp (lift2 addO) (fVar 1) (fLst (fCons (fIsY ["NoFolk", "NoNames", "NoWeights"] "TooGreat" (fVar 0)) fNil)))) (fseq (fSet 2 (fLst (fCons (fC (.str "NoBack")) (fCons (fC (.str "NoFall")) (fCons (fC (.str "NoFit")) (fCons (fC (.str "NoFixed")) (fCons (fC (.str "NoFolk")) (fCons (fC (.str "NoHand")) (fCons (fC (.str "NoLine")) (fCons (fC (.str "NoNames")) fNil)))))))))) (fseq (fSet 2 (fOp (lift2 addO) (fVar 2) (fLst (fCons (fC (.str "NoNumber")) (fCons (fC (.str "NoPaper")) (fCons (fC (.str "NoRanking")) (fCons (fC (.str "NoRow")) (fCons (fC (.str "NoRule")) (fCons (fC (.str "NoText")) (fCons (fC (.str "NoTitle")) (fCons (fC (.str "NoTops")) fNil))))))))))) (fseq (fSet 2 (fOp (lift2 addO) (fVar 2) (fLst (fCons (fC (.str "NoTree")) (fCons (fC (.str "NoWeights")) (fCons (fC (.str "TooGreat")) fNil)))))) (fRet (fLc (fZip (fCons (fVar 2) (fCons (fVar 1) fNil))) (bTup 2 (bCons (bName 3) (bCons (bName 4) bNil))) (t_law_names_of_v2_1) (e_law_names_of_v2_2) [3, 4])))))))))))
def F_law_names_of_v2 : List R → Pw → FRes := runF 5 1 p_law_names_of_v2
def b_law_refused_v16_1 : DSt → Flow := fDrop (fUser F_margin (fCons (fVar 0) (fCons (fVar 1) (fCons (fVar 2) (fCons (fVar 3) fNil)))))
def p_law_refused_v16 : DSt → Flow := fseq (fSet 4 (fC .none)) (fseq (fTry ["NoFolk", "NoNames", "NoWeights"] 5 4 b_law_refused_v16_1) (fRet (fAndV (fIsV ["NoFolk", "NoNames", "NoWeights"] (fVar 4)) (fOp (lift2 eqO) (fUser F_law_names_of_v2 (fCons (fVar 4) fNil)) (fLst (fCons (fC (.str "NoNames")) fNil))))))
def F_law_refused_v16 : List R → Pw → FRes := runF 6 4 p_law_refused_v16
def b_law_k50_1 : DSt → Flow := fIfS (fB (fOp (lift2 neO) (fVar 7) (fVar 8))) (fseq (fSet 9 (fUser F_margin (fCons (fOp (lift2 ixO) (fVar 6) (fC (.int 0))) (fCons (fOp (lift2 ixO) (fVar 6) (fC (.int 1))) (fCons (fVar 7) (fCons (fVar 8) fNil)))))) (fseq (fIfS (fOr (fNot (fB (fUser F_law_whole (fCons (fVar 9) fNil)))) (fB (fOp (lift2 neO) (fVar 9) (fUser F_law_lead (fCons (fVar 4) (fCons (fVar 5) (fCons (fVar 7) (fCons (fVar 8) fNil)))))))) (fRet (fC (.bool false))) fnext) (fIfS (fB (fOp (lift2 neO) (fVar 6) (fLst (fCons (fVar 4) (fCons (fVar 5) fNil))))) (fRet (fC (.bool false))) fnext))) fnext
abbrev o_law_k50_1 : List PyData → DSt → Flow := loopF (bName 8) b_law_k50_1
def b_law_k50_2 : DSt → Flow := fFor (fLstI (fVar 2)) (bName 8) b_law_k50_1
abbrev o_law_k50_2 : List PyData → DSt → Flow := loopF (bName 7) b_law_k50_2
def t_law_k50_3 : M Bool := fB (fOp (lift2 notInO) (fOp (lift2 addO) (fVar 11) (fC (.int 1))) (fVar 2))
def e_law_k50_4 : M R := fOp (lift2 addO) (fVar 11) (fC (.int 1))
abbrev l_law_k50_4 : M R := fLc (fLstI (fVar 2)) (bName 11) (t_law_k50_3) (e_law_k50_4) [11]
def b_law_k50_5 : DSt → Flow := fIfS (fOr (fNot (fB (fUser F_law_refused_v16 (fCons (fOp (lift2 ixO) (fVar 6) (fC (.int 0))) (fCons (fOp (lift2 ixO) (fVar 6) (fC (.int 1))) (fCons (fVar 7) (fCons (fVar 8) fNil))))))) (fNot (fB (fUser F_law_refused_v16 (fCons (fOp (lift2 ixO) (fVar 6) (fC (.int 0))) (fCons (fOp (lift2 ixO) (fVar 6) (fC (.int 1))) (fCons (fVar 8) (fCons (fVar 7) fNil)))))))) (fRet (fC (.bool false))) fnext
abbrev o_law_k50_5 : List PyData → DSt → Flow := loopF (bName 8) b_law_k50_5
def p_law_k50 : DSt → Flow := fseq (fSet 1 (fUser F_law_draws (fCons (fVar 0) (fCons (fC (.int 0)) (fCons (fC (.int 5)) fNil))))) (fseq (fSet 2 (fUser F_law_line (fCons (fVar 0) (fCons (fC (.int 1)) (fCons (fOp (lift2 ixO) (fLst (fCons (fOp (lift2 addO) (fC (.int 1)) (fOp (lift2 modO) (fOp (lift2 ixO) (fVar 1) (fC (.int 0))) (fC (.int 7)))) (fCons (fC (.int 10)) fNil))) (fCall intO (pCons (fOp (lift2 eqO) (fOp (lift2 modO) (fOp (lift2 fdivO) (fOp (lift2 ixO) (fVar 1) (fC (.int 0))) (fC (.int 64))) (fC (.int 8))) (fC (.int 3))) fNil))) fNil))))) (fseq (fSet 3 (fOp (lift2 ixO) (fLst (fCons (fOp (lift2 addO) (fC (.int 1)) (fOp (lift2 modO) (fOp (lift2 ixO) (fVar 1) (fC (.int 1))) (fC (.int 9)))) (fCons (fC (.int 20)) fNil))) (fCall intO (pCons (fOp (lift2 eqO) (fOp (lift2 modO) (fOp (lift2 fdivO) (fOp (lift2 ixO) (fVar 1) (fC (.int 1))) (fC (.int 64))) (fC (.int 8))) (fC (.int 3))) fNil)))) (fseq (fSet 4 (fUser F_law_folk_v3 (fCons (fVar 0) (fCons (fC (.int 3)) (fCons (fVar 2) (fCons (fVar 3) (fCons (fOp (lift2 ixO) (fLst (fCons (fUn (lift1 negO) (fC (.int 1))) (fCons (fVar 3) fNil))) (fOp (lift2 modO) (fOp (lift2 ixO) (fVar 1) (fC (.int 2))) (fC (.int 2)))) fNil))))))) (fseq (fSet 5 (fUser F_law_weights (fCons (fVar 0) (fCons (fC (.int 2)) (fCons (fVar 3) fNil))))) (fseq (fSet 6 (fUser (F_law_copied 6) (fCons (fLst (fCons (fVar 4) (fCons (fVar 5) fNil))) fNil))) (fseq (fFor (fLstI (fVar 2)) (bName 7) b_law_k50_2) (fseq (fSet 7 (fOp (lift2 ixO) (fVar 2) (fOp (lift2 modO) (fOp (lift2 ixO) (fVar 1) (fC (.int 3))) (fCall lenO (pCons (fVar 2) fNil))))) (fseq (fSet 10 (fLc (fLstI (fVar 2)) (bName 11) (t_law_k50_3) (e_law_k50_4) [11])) (fseq (fFor (fLstI (fLst (fCons (fVar 7) (fCons (fOp (lift2 ixO) (fVar 10) (fOp (lift2 modO) (fOp (lift2 ixO) (fVar 1) (fC (.int 4))) (fCall lenO (pCons (fVar 10) fNil)))) (fCons (fOp (lift2 addO) (fOp (lift2 addO) (fCall maxO (pCons (fVar 2) fNil)) (fC (.int 1))) (fOp (lift2 ixO) (fVar 1) (fC (.int 4)))) fNil))))) (bName 8) b_law_k50_5) (fRet (fOp (lift2 eqO) (fVar 6) (fLst (fCons (fVar 4) (fCons (fVar 5) fNil))))))))))))))
def F_law_k50 : List R → Pw → FRes := runF 12 1 p_law_k50
@[simp] theorem atI_lit {α : Type} {xs : List α} {k : Nat} : atI xs (no_index (OfNat.ofNat k)) = xs[k]? := by
  show atI xs ((k : Nat) : Int) = _
  exact atI_nat
def cpR' : PyData → R
  | .list ds => .new ds
  | d => .val d
theorem esc_cp' {d : PyData} {s : DSt} : esc (cpR' d) s = some (.val d, s) := by cases d <;> rfl
theorem copied_ok : ∀ {n m : Nat} {d : PyData} {w : Pw}, bdd n d → n < m → F_law_copied m [.val d] w = .ok (cpR' d) w
  | n, 0, _, _, _, h => by omega
  | n, m + 1, d, w, b, h => by
    have ih : ∀ {k : Nat} {x : PyData}, bdd k x → k < m → ∀ w, F_law_copied m [.val x] w = .ok (cpR' x) w := fun b h w => copied_ok b h
    unfold F_law_copied p_law_copied
    simp only [x_runF]
    cases d with
    | list ds =>
      cases n with
      | zero => unfold bdd at b; exact b.elim
      | succ n =>
        rw [bdd_list] at b
        have e : l_law_copied_2 (F_law_copied m) ⟨[.val (.list ds), .no], w⟩ = .ok (.new (ds.map id)) ⟨[.val (.list ds), .no], w⟩ := by
          refine lc_all (fun x : PyData => ⟨[.val (.list ds), .val x], w⟩) _ (f := id) (l := ds) (by simp -implicitDefEqProofs) (by omega) rfl (fun a _ => by rfl) (fun a _ => by rfl) (fun x hx => ?_)
          unfold e_law_copied_2
          simp -implicitDefEqProofs [ih (b.2 x hx) (by omega), esc_cp']
        rw [List.map_id] at e
        simp -implicitDefEqProofs [e, cpR']
    | tuple ds =>
      cases n with
      | zero => unfold bdd at b; exact b.elim
      | succ n =>
        rw [bdd_tuple] at b
        have e : l_law_copied_1 (F_law_copied m) ⟨[.val (.tuple ds), .no], w⟩ = .ok (.new (ds.map id)) ⟨[.val (.tuple ds), .no], w⟩ := by
          refine lc_all (fun x : PyData => ⟨[.val (.tuple ds), .val x], w⟩) _ (f := id) (l := ds) (by simp -implicitDefEqProofs) (by omega) rfl (fun a _ => by rfl) (fun a _ => by rfl) (fun x hx => ?_)
          unfold e_law_copied_1
          simp -implicitDefEqProofs [ih (b.2 x hx) (by omega), esc_cp']
        rw [List.map_id] at e
        simp -implicitDefEqProofs [e, cpR']
    | dict kvs => cases n <;> (unfold bdd at b; exact b.elim)
    | _ => simp -implicitDefEqProofs [cpR']
def tgB (p : Str × Bool) : PyData := .tuple [.str p.1, .bool p.2]
end DL

noncomputable section
namespace DL
open PySem L2
def b_law_folk_v4_1 : DSt → Flow := fseq (fSet 7 (fUser F_law_draws (fCons (fVar 0) (fCons (fOp (lift2 addO) (fVar 1) (fVar 6)) (fCons (fOp (lift2 addO) (fCall lenO (pCons (fVar 2) fNil)) (fC (.int 1))) fNil))))) (fIfS (fOr (fB (fOp (lift2 inO) (fVar 6) (fLst (fCons (fVar 4) (fCons (fOp (lift2 addO) (fVar 4) (fC (.int 2))) fNil))))) (fAnd (fB (fOp (lift2 ltO) (fVar 4) (fC (.int 0)))) (fB (fOp (lift2 gtO) (fOp (lift2 modO) (fOp (lift2 ixO) (fVar 7) (fUn (lift1 negO) (fC (.int 1)))) (fC (.int 3))) (fC (.int 0)))))) (fDrop (fApp 5 (fUser F_law_shuffled (fCons (fVar 2) (fCons (fVar 7) fNil))))) (fDrop (fApp 5 (fUser F_law_fallen (fCons (fVar 2) (fCons (fVar 7) fNil))))))
abbrev o_law_folk_v4_1 : List PyData → DSt → Flow := loopF (bName 6) b_law_folk_v4_1
def p_law_folk_v4 : DSt → Flow := fseq (fSet 5 (fLst fNil)) (fseq (fFor (fRng1 (pCons (fVar 3) fNil)) (bName 6) b_law_folk_v4_1) (fRet (fVar 5)))
def F_law_folk_v4 : List R → Pw → FRes := runF 8 5 p_law_folk_v4
def b_law_no_weights_1 : DSt → Flow := fDrop (fApp 3 (fOp (lift2 addO) (fOp (lift2 addO) (fSlice (fVar 0) fNoPart (fPart (fVar 2))) (fLst (fCons (fVar 4) fNil))) (fSlice (fVar 0) (fPart (fOp (lift2 addO) (fVar 2) (fC (.int 1)))) fNoPart)))
abbrev o_law_no_weights_1 : List PyData → DSt → Flow := loopF (bName 4) b_law_no_weights_1
def p_law_no_weights : DSt → Flow := fseq (fSet 2 (fOp (lift2 modO) (fOp (lift2 fdivO) (fVar 1) (fC (.int 16))) (fCall lenO (pCons (fVar 0) fNil)))) (fseq (fSet 3 (fLst (fCons (fSlice (fVar 0) (fPart (fC (.int 1))) fNoPart) (fCons (fOp (lift2 addO) (fVar 0) (fLst (fCons (fC (.int 1)) fNil))) (fCons (fC .none) (fCons (fCall tupleO (pCons (fVar 0) fNil)) (fCons (fC (.str "weights")) fNil))))))) (fseq (fFor (fLstI (fLst (fCons (fC (.int 0)) (fCons (fUn (lift1 negO) (fC (.int 1))) (fCons (fC (.bool true)) (fCons (fC .none) (fCons (fC (.str "1")) fNil))))))) (bName 4) b_law_no_weights_1) (fRet (fOp (lift2 ixO) (fVar 3) (fOp (lift2 modO) (fVar 1) (fCall lenO (pCons (fVar 3) fNil)))))))
def F_law_no_weights : List R → Pw → FRes := runF 5 2 p_law_no_weights
def b_law_no_line_1 : DSt → Flow := fDrop (fApp 3 (fOp (lift2 addO) (fOp (lift2 addO) (fSlice (fVar 0) fNoPart (fPart (fVar 2))) (fLst (fCons (fVar 4) fNil))) (fSlice (fVar 0) (fPart (fOp (lift2 addO) (fVar 2) (fC (.int 1)))) fNoPart)))
abbrev o_law_no_line_1 : List PyData → DSt → Flow := loopF (bName 4) b_law_no_line_1
def p_law_no_line : DSt → Flow := fseq (fSet 2 (fOp (lift2 modO) (fOp (lift2 fdivO) (fVar 1) (fC (.int 16))) (fCall lenO (pCons (fVar 0) fNil)))) (fseq (fSet 3 (fLst (fCons (fLst fNil) (fCons (fOp (lift2 addO) (fVar 0) (fSlice (fVar 0) fNoPart (fPart (fC (.int 1))))) (fCons (fC .none) (fCons (fCall tupleO (pCons (fVar 0) fNil)) (fCons (fLst (fCons (fC .none) fNil)) (fCons (fOp (lift2 addO) (fOp (lift2 addO) (fSlice (fVar 0) fNoPart (fPart (fVar 2))) (fLst (fCons (fC (.bool true)) (fCons (fC (.bool true)) fNil)))) (fSlice (fVar 0) (fPart (fOp (lift2 addO) (fVar 2) (fC (.int 1)))) fNoPart)) fNil)))))))) (fseq (fSet 3 (fOp (lift2 addO) (fVar 3) (fLst (fCons (fLRng1 (fC (.int 11))) (fCons (fOp (lift2 addO) (fOp (lift2 addO) (fSlice (fVar 0) fNoPart (fPart (fVar 2))) (fLst (fCons (fUn (lift1 negO) (fC (.int 1))) fNil))) (fSlice (fVar 0) (fPart (fOp (lift2 addO) (fVar 2) (fC (.int 1)))) fNoPart)) (fCons (fOp (lift2 addO) (fOp (lift2 addO) (fSlice (fVar 0) fNoPart (fPart (fVar 2))) (fSlice (fVar 0) (fPart (fOp (lift2 addO) (fVar 2) (fC (.int 1)))) fNoPart)) (fLst (fCons (fOp (lift2 ixO) (fVar 0) (fOp (lift2 subO) (fVar 2) (fC (.int 1)))) fNil))) fNil)))))) (fseq (fFor (fLstI (fLst (fCons (fC .none) (fCons (fC (.str "1")) (fCons (fLst (fCons (fC (.int 0)) fNil)) (fCons (fTup (fCons (fC (.int 0)) fNil)) fNil)))))) (bName 4) b_law_no_line_1) (fRet (fOp (lift2 ixO) (fVar 3) (fOp (lift2 modO) (fVar 1) (fCall lenO (pCons (fVar 3) fNil))))))))
def F_law_no_line : List R → Pw → FRes := runF 5 2 p_law_no_line
def e_law_no_folk_1 : M R := fOp (lift2 ixO) (fLst (fCons (fVar 7) (fCons (fC (.bool true)) fNil))) (fCall intO (pCons (fOp (lift2 eqO) (fVar 7) (fC (.int 1))) fNil))
abbrev l_law_no_folk_1 : M R := fLc (fLstI (fVar 3)) (bName 7) fYes (e_law_no_folk_1) [7]
def b_law_no_folk_2 : DSt → Flow := fDrop (fApp 5 (fOp (lift2 addO) (fOp (lift2 addO) (fSlice (fVar 0) fNoPart (fPart (fVar 2))) (fLst (fCons (fOp (lift2 addO) (fSlice (fVar 3) fNoPart (fPart (fUn (lift1 negO) (fC (.int 1))))) (fLst (fCons (fVar 6) fNil))) fNil))) (fSlice (fVar 0) (fPart (fOp (lift2 addO) (fVar 2) (fC (.int 1)))) fNoPart)))
abbrev o_law_no_folk_2 : List PyData → DSt → Flow := loopF (bName 6) b_law_no_folk_2
def p_law_no_folk : DSt → Flow := fseq (fSet 2 (fOp (lift2 modO) (fOp (lift2 fdivO) (fVar 1) (fC (.int 16))) (fCall lenO (pCons (fVar 0) fNil)))) (fseq (fSet 3 (fOp (lift2 ixO) (fVar 0) (fVar 2))) (fseq (fSet 4 (fOp (lift2 addO) (fCall maxO (pCons (fVar 3) fNil)) (fC (.int 1)))) (fseq (fSet 5 (fLst (fCons (fLst fNil) (fCons (fSlice (fOp (lift2 mulO) (fVar 0) (fC (.int 21))) fNoPart (fPart (fC (.int 21)))) (fCons (fCall tupleO (pCons (fVar 0) fNil)) (fCons (fC .none) (fCons (fOp (lift2 addO) (fOp (lift2 addO) (fOp (lift2 addO) (fSlice (fVar 0) fNoPart (fPart (fVar 2))) (fLst (fCons (fSlice (fVar 3) fNoPart (fPart (fUn (lift1 negO) (fC (.int 1))))) fNil))) (fSlice (fVar 0) (fPart (fOp (lift2 addO) (fVar 2) (fC (.int 1)))) fNoPart)) (fLst (fCons (fVar 3) fNil))) fNil))))))) (fseq (fDrop (fApp 5 (fOp (lift2 addO) (fVar 0) (fLst (fCons (fOp (lift2 addO) (fSlice (fVar 3) fNoPart (fPart (fUn (lift1 negO) (fC (.int 1))))) (fLst (fCons (fVar 4) fNil))) fNil))))) (fseq (fDrop (fApp 5 (fOp (lift2 addO) (fVar 0) (fLst (fCons (fOp (lift2 addO) (fSlice (fVar 3) fNoPart (fPart (fUn (lift1 negO) (fC (.int 1))))) (fSlice (fVar 3) fNoPart (fPart (fC (.int 1))))) fNil))))) (fseq (fDrop (fApp 5 (fOp (lift2 addO) (fVar 0) (fLst (fCons (fOp (lift2 addO) (fLc (fLstI (fVar 3)) (bName 7) fYes (e_law_no_folk_1) [7]) (fOp (lift2 mulO) (fLst (fCons (fVar 4) fNil)) (fCall intO (pCons (fOp (lift2 notInO) (fC (.int 1)) (fVar 3)) fNil)))) fNil))))) (fseq (fSet 5 (fOp (lift2 addO) (fVar 5) (fLst (fCons (fOp (lift2 addO) (fOp (lift2 addO) (fSlice (fVar 0) fNoPart (fPart (fVar 2))) (fLst (fCons (fCall tupleO (pCons (fVar 3) fNil)) fNil))) (fSlice (fVar 0) (fPart (fOp (lift2 addO) (fVar 2) (fC (.int 1)))) fNoPart)) (fCons (fOp (lift2 addO) (fOp (lift2 addO) (fSlice (fVar 0) fNoPart (fPart (fVar 2))) (fLst (fCons (fC .none) fNil))) (fSlice (fVar 0) (fPart (fOp (lift2 addO) (fVar 2) (fC (.int 1)))) fNoPart)) fNil))))) (fseq (fFor (fLstI (fLst (fCons (fC .none) (fCons (fC (.str "1")) (fCons (fLst (fCons (fC (.int 0)) fNil)) (fCons (fTup (fCons (fC (.int 0)) fNil)) fNil)))))) (bName 6) b_law_no_folk_2) (fRet (fOp (lift2 ixO) (fVar 5) (fOp (lift2 modO) (fVar 1) (fCall lenO (pCons (fVar 5) fNil)))))))))))))
def F_law_no_folk : List R → Pw → FRes := runF 8 2 p_law_no_folk
theorem folk4_ok {ns L : List Int} {j h : Nat} {free : Int} {w : Pw} (hl : ns.length ≤ 63) (hj : j ≤ 100) (hh : h ≤ 100) (h0 : 0 < L.length) (h10 : L.length ≤ 100) (hfr : 0 ≤ free) : ∃ f : List (List Int), F_law_folk_v4 [.ob (.scr ns), .val (.int ((j : Nat) : Int)), .val (.list ((L).map .int)), .val (.int ((h : Nat) : Int)), .val (.int (free))] w = .ok (.new (f.map llD)) w ∧ f.length = h ∧ ∀ r ∈ f, r.Perm L := by
  obtain ⟨s', e, f, v6, v7, h1, h2, rfl⟩ := loopN (b := bName 6) (p := b_law_folk_v4_1) (f := fun k : Nat => PyData.int (k : Int)) (l := List.range h) (s := ⟨[.ob (.scr ns), .val (.int ((j : Nat) : Int)), .val (.list ((L).map .int)), .val (.int ((h : Nat) : Int)), .val (.int (free)), .own [], .no, .no], w⟩)
    (fun i s => ∃ (f : List (List Int)) (v6 v7 : Sl), f.length = i ∧ (∀ r ∈ f, r.Perm L) ∧ s = ⟨[.ob (.scr ns), .val (.int ((j : Nat) : Int)), .val (.list ((L).map .int)), .val (.int ((h : Nat) : Int)), .val (.int (free)), .own (f.map llD), v6, v7], w⟩) ⟨[], .no, .no, rfl, fun r hr => (by simp at hr), rfl⟩ (by
      rintro i k s hi hk ⟨f, v6, v7, h1, h2, rfl⟩
      obtain ⟨rfl, hkh⟩ := range_at hi
      obtain ⟨ds, e1, l1, d1⟩ := draws_ok (w := w) (j := j + k) (m := L.length + 1) hl (by omega) (by omega)
      have e1' : F_law_draws [.ob (.scr ns), .val (.int ((j : Int) + (k : Int))), .val (.int ((L.length : Int) + 1))] w = .ok (.new (ds.map .int)) w := e1
      obtain ⟨S, e2, p2⟩ := shuffled_ok (w := w) (N := L) (ds := ds) d1 (by omega) (by omega)
      obtain ⟨bs, e3, b3⟩ := fallen_ok (w := w) (L := L) (ds := ds) d1 h0 (by omega) (by omega)
      have lt : ltS f.length := size_lt (by omega)
      obtain ⟨F, hF⟩ : ∃ F, (pick L bs).reverse = F := ⟨_, rfl⟩
      rw [hF] at e3
      have pF : F.Perm L := by rw [← hF]; exact (List.reverse_perm _).trans (pick_perm _ _)
      have gS : ∀ r ∈ f ++ [S], r.Perm L := fun r hr => by
        rcases List.mem_append.mp hr with hr | hr
        · exact h2 r hr
        · simp at hr; subst hr; exact p2
      have gF : ∀ r ∈ f ++ [F], r.Perm L := fun r hr => by
        rcases List.mem_append.mp hr with hr | hr
        · exact h2 r hr
        · simp at hr; subst hr; exact pF
      have eS : f.map llD ++ [.list (S.map .int)] = (f ++ [S]).map llD := by simp [llD]
      have eF : f.map llD ++ [.list (F.map .int)] = (f ++ [F]).map llD := by simp [llD]
      have s2 : leS 2 := size_le (by omega)
      have q2 : ¬ free < 0 := by omega
      have ei : inO (.int (k : Int)) (.list [.int free, .int (free + 2)]) = some (.val (.bool (decide ((k : Int) ∈ [free, free + 2])))) := x_inL (ns := [free, free + 2])
      unfold b_law_folk_v4_1
      by_cases q1 : (k : Int) ∈ [free, free + 2]
      · rw [decide_eq_true q1] at ei
        simp -implicitDefEqProofs [e1', ei, s2, e2, lt, eS, -List.map_append]
        exact ⟨f ++ [S], by simpa using h1, gS, rfl⟩
      · rw [decide_eq_false q1] at ei
        simp -implicitDefEqProofs [e1', ei, s2, q2, e3, lt, eF, -List.map_append]
        exact ⟨f ++ [F], by simpa using h1, gF, rfl⟩)
  have hB : inB (h : Int) := inB_of (by omega) (by omega)
  refine ⟨f, ?_, by simpa using h1, h2⟩
  unfold F_law_folk_v4 p_law_folk_v4
  simp only [x_runF]
  simp -implicitDefEqProofs [hB, rangeD, e]
/-! ### weights that are none -/
def wtB (n : Nat) : PyData → Bool
  | .list ds => match intsD ds with
    | some ws => decide (ws.length = n ∧ ∀ x ∈ ws, 1 ≤ x)
    | none => false
  | _ => false
theorem wtB_ints {n : Nat} {ws : List Int} : wtB n (.list (ws.map .int)) = decide (ws.length = n ∧ ∀ x ∈ ws, 1 ≤ x) := by
  show (match intsD (ws.map .int) with | some ws => decide (ws.length = n ∧ ∀ x ∈ ws, 1 ≤ x) | none => false) = _
  rw [intsD_map]
def posB : PyData → Bool | .int n => decide (1 ≤ n) | _ => false
theorem wtB_all {n : Nat} {ds : List PyData} (hl : ds.length = n) (h : ds.all posB = true) : wtB n (.list ds) = true := by
  have go : ∀ {ds : List PyData}, ds.all posB = true → ∃ ws : List Int, ds = ws.map .int ∧ ∀ x ∈ ws, 1 ≤ x := by
    intro ds
    induction ds with
    | nil => exact fun _ => ⟨[], rfl, by simp⟩
    | cons d ds ih =>
      intro h
      simp only [List.all_cons, Bool.and_eq_true] at h
      obtain ⟨ws, rfl, hw⟩ := ih h.2
      cases d with
      | int z => exact ⟨z :: ws, rfl, fun x hx => by
          rcases List.mem_cons.mp hx with rfl | hx
          · simpa [posB] using h.1
          · exact hw x hx⟩
      | _ => simp [posB] at h
  obtain ⟨ws, rfl, hw⟩ := go h
  rw [wtB_ints]
  exact decide_eq_true ⟨by simpa using hl, hw⟩
theorem weighed_no {f : List (List Int)} {n : Nat} {d : PyData} {w : Pw} (hf : Folk f) (hb : bdd n d) (h : wtB f.length d = false) : F_must_be_weighed [.val (.list ((f).map llD)), .val d] w = .err ⟨"NoWeights", none⟩ w := by
  have m := must_folk_ok (w := w) hf
  unfold F_must_be_weighed p_must_be_weighed
  simp only [x_runF]
  cases d with
  | list ds =>
    have hl := bdd_litems hb
    by_cases q : ds.length = f.length
    · have ha : ds.all posB = false := by
        rw [Bool.eq_false_iff]
        exact fun z => by rw [wtB_all q z] at h; cases h
      have el : l_must_be_weighed_1 ⟨[.val (.list ((f).map llD)), .val (.list ds), .no], w⟩ = .ok (.new (ds.map fun x => .bool (posB x))) ⟨[.val (.list ((f).map llD)), .val (.list ds), .no], w⟩ := by
        refine lc_all (fun x : PyData => ⟨[.val (.list ((f).map llD)), .val (.list ds), .val x], w⟩) _ (f := id) (l := ds) (by simp -implicitDefEqProofs) (by omega) rfl (fun a _ => by rfl) (fun a _ => by rfl) (fun x hx => ?_)
        unfold e_must_be_weighed_1
        cases x <;> simp -implicitDefEqProofs [is_number_any, isI, posB]
      have ha' : (ds.map posB).all id = false := by simpa using ha
      simp -implicitDefEqProofs [m, q, el, boolsD_map', ha']
    · have q2 : ¬ ((ds.length : Nat) : Int) = ((f.length : Nat) : Int) := by omega
      simp -implicitDefEqProofs [m, q2]
  | _ => simp -implicitDefEqProofs [m]

end DL

noncomputable section
namespace DL
open PySem L2

theorem bdd_ints {n : Nat} {l : List Int} (h : l.length ≤ 1000) : bdd (n + 1) (.list (l.map .int)) := bdd_list.mpr ⟨by simpa using h, fun d hd => by obtain ⟨z, _, rfl⟩ := List.mem_map.mp hd; simp⟩
theorem bdd_folk {n : Nat} {f : List (List Int)} (h : f.length ≤ 1000) (h2 : ∀ r ∈ f, r.length ≤ 1000) : bdd (n + 2) (.list (f.map llD)) := bdd_list.mpr ⟨by simpa using h, fun d hd => by obtain ⟨z, hz, rfl⟩ := List.mem_map.mp hd; exact bdd_ints (h2 z hz)⟩
end DL

noncomputable section
namespace DL
open PySem L2

theorem at_mod {E : List PyData} {n : Int} (h : 0 < E.length) : ∃ d ∈ E, atI E (n % (E.length : Int)) = some d := by
  have h1 : 0 ≤ n % (E.length : Int) := Int.emod_nonneg _ (by omega)
  have h2 : n % (E.length : Int) < (E.length : Int) := Int.emod_lt_of_pos _ (by omega)
  obtain ⟨k, hk⟩ : ∃ k : Nat, n % (E.length : Int) = (k : Int) := ⟨_, (Int.toNat_of_nonneg h1).symm⟩
  rw [hk]
  have hl : k < E.length := by omega
  exact ⟨E[k], List.getElem_mem hl, by rw [atI_nat]; exact List.getElem?_eq_getElem hl⟩
theorem mod_nat {n : Int} {m : Nat} (h : 0 < m) : ∃ k : Nat, n % (m : Int) = (k : Int) ∧ k < m := by
  have h1 : 0 ≤ n % (m : Int) := Int.emod_nonneg _ (by omega)
  have h2 : n % (m : Int) < (m : Int) := Int.emod_lt_of_pos _ (by omega)
  exact ⟨(n % (m : Int)).toNat, (Int.toNat_of_nonneg h1).symm, by omega⟩
theorem intsD_odd {A B : List PyData} {x : PyData} (h : ∀ z, x ≠ .int z) : intsD (A ++ x :: B) = none := by
  cases q : intsD (A ++ x :: B) with
  | none => rfl
  | some ns =>
    have e := intsD_some q
    have m : x ∈ ns.map PyData.int := by rw [← e]; simp
    obtain ⟨z, _, e2⟩ := List.mem_map.mp m
    exact absurd e2.symm (h z)
theorem rankB_odd {A B : List PyData} {x : PyData} (h : ∀ z, x ≠ .int z) : rankB (.list (A ++ x :: B)) = false := by
  show (match intsD (A ++ x :: B) with | some ns => decide (Rank ns) | none => false) = _
  rw [intsD_odd h]
theorem wtB_odd {n : Nat} {A B : List PyData} {x : PyData} (h : ∀ z, x ≠ .int z) : wtB n (.list (A ++ x :: B)) = false := by
  show (match intsD (A ++ x :: B) with | some ws => decide (ws.length = n ∧ ∀ x ∈ ws, 1 ≤ x) | none => false) = _
  rw [intsD_odd h]
theorem wtB_no {n : Nat} {ws : List Int} (h : ¬ (ws.length = n ∧ ∀ x ∈ ws, 1 ≤ x)) : wtB n (.list (ws.map .int)) = false := by rw [wtB_ints]; exact decide_eq_false h
theorem bdd_mid {n : Nat} {A B : List PyData} {x : PyData} (h : A.length + B.length ≤ 900) (ha : ∀ d ∈ A, bdd n d) (hb : ∀ d ∈ B, bdd n d) (hx : bdd n x) : bdd (n + 1) (.list (A ++ x :: B)) := bdd_list.mpr ⟨by simp; omega, fun d hd => by
  rcases List.mem_append.mp hd with hd | hd
  · exact ha d hd
  · rcases List.mem_cons.mp hd with rfl | hd
    · exact hx
    · exact hb d hd⟩
theorem bdd_at {n : Nat} {l : List Int} : ∀ d ∈ l.map PyData.int, bdd n d := fun d hd => by obtain ⟨z, _, rfl⟩ := List.mem_map.mp hd; simp
theorem no_weights_ok {ws : List Int} {n : Int} {w : Pw} (h0 : 0 < ws.length) (h20 : ws.length ≤ 20) : ∃ d, F_law_no_weights [.val (.list ((ws).map .int)), .val (.int (n))] w = .ok (.val d) w ∧ bdd 3 d ∧ wtB ws.length d = false := by
  obtain ⟨k, hk, hk2⟩ := mod_nat (n := n / 16) h0
  obtain ⟨A, hA⟩ : ∃ A, (ws.take k).map PyData.int = A := ⟨_, rfl⟩
  obtain ⟨B, hB⟩ : ∃ B, (ws.drop (k + 1)).map PyData.int = B := ⟨_, rfl⟩
  obtain ⟨C, hC⟩ : ∃ C, (ws.drop 1).map PyData.int = C := ⟨_, rfl⟩
  have c1 : cutD (ws.map PyData.int) none (some (k : Int)) = A := by rw [cutD_map, cut_to, hA]
  have c2 : cutD (ws.map PyData.int) (some ((k : Int) + 1)) none = B := by
    have e : ((k : Int) + 1) = ((k + 1 : Nat) : Int) := by omega
    rw [e, cutD_map, cut_from, hB]
  have c3 : cutD (ws.map PyData.int) (some 1) none = C := by rw [cutD_map, ← hC]; exact congrArg _ (cut_from (k := 1))
  have lA : A.length = k := by rw [← hA, List.length_map, List.length_take]; omega
  have lB : B.length = ws.length - (k + 1) := by rw [← hB, List.length_map, List.length_drop]
  have lC : C.length = ws.length - 1 := by rw [← hC, List.length_map, List.length_drop]
  obtain ⟨P, hP⟩ : ∃ P : List PyData, [PyData.list C, .list (ws.map .int ++ [.int 1]), .none, .tuple (ws.map .int), .str "weights"] = P := ⟨_, rfl⟩
  have lP : P.length = 5 := by rw [← hP]; rfl
  obtain ⟨O, hO⟩ : ∃ O : List PyData, [PyData.int 0, .int (-1), .bool true, .none, .str "1"] = O := ⟨_, rfl⟩
  have lO : O.length = 5 := by rw [← hO]; rfl
  obtain ⟨s', e, v4, rfl⟩ := loopN (b := bName 4) (p := b_law_no_weights_1) (f := id) (l := O) (s := ⟨[.val (.list ((ws).map .int)), .val (.int (n)), .val (.int (k)), .own P, .no], w⟩)
    (fun i s => ∃ v4, s = ⟨[.val (.list ((ws).map .int)), .val (.int (n)), .val (.int (k)), .own (P ++ (O.take i).map fun o => .list (A ++ o :: B)), v4], w⟩) ⟨.no, by simp⟩ (by
      rintro i o s hi hm ⟨v4, rfl⟩
      have hi2 := (List.getElem?_eq_some_iff.mp hi).1
      rw [take_succ hi, List.map_append]
      obtain ⟨T, hT⟩ : ∃ T, (O.take i).map (fun o => PyData.list (A ++ o :: B)) = T := ⟨_, rfl⟩
      have lT : T.length = i := by rw [← hT, List.length_map, List.length_take]; omega
      rw [hT]
      have lt : ltS (P.length + T.length) := size_lt (by omega)
      have t1 : leS (A.length + 1) := size_le (by omega)
      have t2 : leS (A.length + 1 + B.length) := size_le (by omega)
      unfold b_law_no_weights_1
      simp -implicitDefEqProofs [c1, c2, lt, t1, t2])
  have es : O.take O.length = O := List.take_length
  rw [es, List.map_id] at e
  have ml : (P ++ O.map fun o => PyData.list (A ++ o :: B)).length = 10 := by simp [lP, lO]
  obtain ⟨E, hE⟩ : ∃ E, (P ++ O.map fun o => PyData.list (A ++ o :: B)) = E := ⟨_, rfl⟩
  rw [hE] at e ml
  obtain ⟨d, md, ed⟩ := at_mod (E := E) (n := n) (by omega)
  rw [ml] at ed
  have ed : atI E (n % 10) = some d := ed
  have bE : ∀ d ∈ E, bdd 3 d ∧ wtB ws.length d = false := by
    intro d hd
    rw [← hE] at hd
    have bA : ∀ d ∈ A, bdd 2 d := by rw [← hA]; exact bdd_at
    have bB : ∀ d ∈ B, bdd 2 d := by rw [← hB]; exact bdd_at
    rcases List.mem_append.mp hd with hd | hd
    · rw [← hP] at hd
      simp only [List.mem_cons, List.not_mem_nil, or_false] at hd
      rcases hd with rfl | rfl | rfl | rfl | rfl
      · rw [← hC]; exact ⟨bdd_ints (by rw [List.length_drop]; omega), wtB_no fun z => by have := z.1; rw [List.length_drop] at this; omega⟩
      · have e1 : ws.map PyData.int ++ [.int 1] = (ws ++ [1]).map .int := by simp
        rw [e1]; exact ⟨bdd_ints (by simp; omega), wtB_no fun z => by have := z.1; simp at this⟩
      · exact ⟨by simp, rfl⟩
      · exact ⟨bdd_tuple.mpr ⟨by simp; omega, bdd_at⟩, rfl⟩
      · exact ⟨by simp, rfl⟩
    · obtain ⟨o, ho, rfl⟩ := List.mem_map.mp hd
      rw [← hO] at ho
      simp only [List.mem_cons, List.not_mem_nil, or_false] at ho
      have bx : ∀ z : Int, z < 1 → wtB ws.length (.list (A ++ .int z :: B)) = false := fun z hz => by
        have e1 : A ++ PyData.int z :: B = (ws.take k ++ z :: ws.drop (k + 1)).map .int := by rw [← hA, ← hB]; simp
        rw [e1]; exact wtB_no fun y => by have := y.2 z (by simp); omega
      rcases ho with rfl | rfl | rfl | rfl | rfl
      · exact ⟨bdd_mid (by omega) bA bB (by simp), bx 0 (by omega)⟩
      · exact ⟨bdd_mid (by omega) bA bB (by simp), bx (-1) (by omega)⟩
      · exact ⟨bdd_mid (by omega) bA bB (by simp), wtB_odd fun _ => nofun⟩
      · exact ⟨bdd_mid (by omega) bA bB (by simp), wtB_odd fun _ => nofun⟩
      · exact ⟨bdd_mid (by omega) bA bB (by simp), wtB_odd fun _ => nofun⟩
  refine ⟨d, ?_, bE d md⟩
  have s5 : leS 5 := size_le (by omega)
  have t1 : leS (ws.length + 1) := size_le (by omega)
  have sP : leS P.length := size_le (by omega)
  have sO : leS O.length := size_le (by omega)
  have em : modO (.int (n / 16)) (.int (ws.length : Int)) = some (.val (.int (k : Int))) := by rw [mod_ok (by omega), hk]
  unfold F_law_no_weights p_law_no_weights
  simp only [x_runF]
  simp -implicitDefEqProofs [em, c3, s5, t1, hP, hO, sP, sO, e, ml, ed]

/-! ### lines that are none -/
theorem rankB_no {ns : List Int} (h : ¬ Rank ns) : rankB (.list (ns.map .int)) = false := by rw [rankB_ints]; exact decide_eq_false h
theorem no_line_ok {L : List Int} {n : Int} {w : Pw} (h2 : 2 ≤ L.length) (h10 : L.length ≤ 10) : ∃ d, F_law_no_line [.val (.list ((L).map .int)), .val (.int (n))] w = .ok (.val d) w ∧ bdd 3 d ∧ rankB d = false := by
  obtain ⟨k, hk, hk2⟩ := mod_nat (n := n / 16) (m := L.length) (by omega)
  obtain ⟨A, hA⟩ : ∃ A, (L.take k).map PyData.int = A := ⟨_, rfl⟩
  obtain ⟨B, hB⟩ : ∃ B, (L.drop (k + 1)).map PyData.int = B := ⟨_, rfl⟩
  obtain ⟨C, hC⟩ : ∃ C, (L.take 1).map PyData.int = C := ⟨_, rfl⟩
  have c1 : cutD (L.map PyData.int) none (some (k : Int)) = A := by rw [cutD_map, cut_to, hA]
  have c2 : cutD (L.map PyData.int) (some ((k : Int) + 1)) none = B := by
    have e : ((k : Int) + 1) = ((k + 1 : Nat) : Int) := by omega
    rw [e, cutD_map, cut_from, hB]
  have c3 : cutD (L.map PyData.int) none (some 1) = C := by rw [cutD_map, ← hC]; exact congrArg _ (cut_to (k := 1))
  have lA : A.length = k := by rw [← hA, List.length_map, List.length_take]; omega
  have lB : B.length = L.length - (k + 1) := by rw [← hB, List.length_map, List.length_drop]
  have lC : C.length = 1 := by rw [← hC, List.length_map, List.length_take]; omega
  obtain ⟨z, hz, mz⟩ : ∃ z : Int, atI (L.map PyData.int) ((k : Int) - 1) = some (.int z) ∧ z ∈ L.take k ++ L.drop (k + 1) := by
    by_cases q : k = 0
    · subst q
      obtain ⟨K, y, hK⟩ : ∃ K y, L = K ++ [y] := (snoc_of L).resolve_left (by intro z; subst z; simp at h2)
      refine ⟨y, ?_, ?_⟩
      · rw [hK, List.map_append]
        exact atI_last _ _
      · rw [hK]
        have : 0 < K.length := by rw [hK] at h2; simp at h2; omega
        cases K with
        | nil => simp at this
        | cons a K => simp
    · have e1 : ((k : Int) - 1) = ((k - 1 : Nat) : Int) := by omega
      have hl : k - 1 < L.length := by omega
      refine ⟨L[k - 1], ?_, List.mem_append_left _ ?_⟩
      · rw [e1, atI_mapF, atI_nat, List.getElem?_eq_getElem hl]; rfl
      · exact List.mem_take_iff_getElem.mpr ⟨k - 1, by omega, rfl⟩
  obtain ⟨P, hP⟩ : ∃ P : List PyData, [PyData.list [], .list (L.map .int ++ C), .none, .tuple (L.map .int), .list [.none], .list (A ++ ([.bool true, .bool true] ++ B))] = P := ⟨_, rfl⟩
  have lP : P.length = 6 := by rw [← hP]; rfl
  obtain ⟨P2, hP2⟩ : ∃ P2 : List PyData, [PyData.list (rangeD 0 11), .list (A ++ (.int (-1) :: B)), .list (A ++ (B ++ [.int z]))] = P2 := ⟨_, rfl⟩
  have lP2 : P2.length = 3 := by rw [← hP2]; rfl
  obtain ⟨O, hO⟩ : ∃ O : List PyData, [PyData.none, .str "1", .list [.int 0], .tuple [.int 0]] = O := ⟨_, rfl⟩
  have lO : O.length = 4 := by rw [← hO]; rfl
  obtain ⟨s', e, v4, rfl⟩ := loopN (b := bName 4) (p := b_law_no_line_1) (f := id) (l := O) (s := ⟨[.val (.list ((L).map .int)), .val (.int (n)), .val (.int (k)), .own (P ++ P2), .no], w⟩)
    (fun i s => ∃ v4, s = ⟨[.val (.list ((L).map .int)), .val (.int (n)), .val (.int (k)), .own ((P ++ P2) ++ (O.take i).map fun o => .list (A ++ o :: B)), v4], w⟩) ⟨.no, by simp⟩ (by
      rintro i o s hi hm ⟨v4, rfl⟩
      have hi2 := (List.getElem?_eq_some_iff.mp hi).1
      rw [take_succ hi, List.map_append]
      obtain ⟨T, hT⟩ : ∃ T, (O.take i).map (fun o => PyData.list (A ++ o :: B)) = T := ⟨_, rfl⟩
      have lT : T.length = i := by rw [← hT, List.length_map, List.length_take]; omega
      rw [hT]
      have lt : ltS (P.length + (P2.length + T.length)) := size_lt (by omega)
      have lt2 : ltS (P.length + P2.length + T.length) := size_lt (by omega)
      have t1 : leS (A.length + 1) := size_le (by omega)
      have t2 : leS (A.length + 1 + B.length) := size_le (by omega)
      unfold b_law_no_line_1
      simp -implicitDefEqProofs [c1, c2, lt, lt2, t1, t2])
  have es : O.take O.length = O := List.take_length
  rw [es, List.map_id] at e
  have ml : ((P ++ P2) ++ O.map fun o => PyData.list (A ++ o :: B)).length = 13 := by simp [lP, lP2, lO]
  obtain ⟨E, hE⟩ : ∃ E, ((P ++ P2) ++ O.map fun o => PyData.list (A ++ o :: B)) = E := ⟨_, rfl⟩
  rw [hE] at e ml
  obtain ⟨d, md, ed⟩ := at_mod (E := E) (n := n) (by omega)
  rw [ml] at ed
  have ed : atI E (n % 13) = some d := ed
  have bA : ∀ {m : Nat}, ∀ d ∈ A, bdd m d := by rw [← hA]; exact bdd_at
  have bB : ∀ {m : Nat}, ∀ d ∈ B, bdd m d := by rw [← hB]; exact bdd_at
  have bE : ∀ d ∈ E, bdd 3 d ∧ rankB d = false := by
    intro d hd
    rw [← hE] at hd
    rcases List.mem_append.mp hd with hd | hd
    · rcases List.mem_append.mp hd with hd | hd
      · rw [← hP] at hd
        simp only [List.mem_cons, List.not_mem_nil, or_false] at hd
        rcases hd with rfl | rfl | rfl | rfl | rfl | rfl
        · exact ⟨by simp, rankB_no (ns := []) fun y => by have := y.2.2.1; simp at this⟩
        · have e1 : L.map PyData.int ++ C = (L ++ L.take 1).map .int := by rw [← hC]; simp
          rw [e1]
          refine ⟨bdd_ints (by rw [List.length_append, List.length_take]; omega), rankB_no fun y => ?_⟩
          obtain ⟨a, r, rfl⟩ : ∃ a r, L = a :: r := by
            cases L with
            | nil => simp at h2
            | cons a r => exact ⟨a, r, rfl⟩
          have := y.1
          simp at this
        · exact ⟨by simp, rfl⟩
        · exact ⟨bdd_tuple.mpr ⟨by simp; omega, bdd_at⟩, rfl⟩
        · exact ⟨by simp, rfl⟩
        · exact ⟨bdd_mid (x := .bool true) (B := .bool true :: B) (by simp; omega) bA (fun d hd => by
            rcases List.mem_cons.mp hd with rfl | hd
            · simp
            · exact bB d hd) (by simp), rankB_odd (x := .bool true) (B := .bool true :: B) fun _ => nofun⟩
      · rw [← hP2] at hd
        simp only [List.mem_cons, List.not_mem_nil, or_false] at hd
        rcases hd with rfl | rfl | rfl
        · have e11 : rangeD 0 11 = ([0, 1, 2, 3, 4, 5, 6, 7, 8, 9, 10] : List Int).map .int := rfl
          rw [e11]
          exact ⟨bdd_ints (by simp), rankB_no fun y => by have := y.2.2.2; simp at this⟩
        · have e1 : A ++ PyData.int (-1) :: B = (L.take k ++ -1 :: L.drop (k + 1)).map .int := by rw [← hA, ← hB]; simp
          exact ⟨bdd_mid (by omega) bA bB (by simp), by rw [e1]; exact rankB_no fun y => by have := y.2.1 (-1) (by simp); omega⟩
        · have e1 : A ++ (B ++ [PyData.int z]) = ((L.take k ++ L.drop (k + 1)) ++ [z]).map .int := by rw [← hA, ← hB]; simp
          rw [e1]
          refine ⟨bdd_ints (by simp; omega), rankB_no fun y => ?_⟩
          have := (List.nodup_append.mp y.1).2.2 z mz z (by simp)
          exact this rfl
    · obtain ⟨o, ho, rfl⟩ := List.mem_map.mp hd
      rw [← hO] at ho
      simp only [List.mem_cons, List.not_mem_nil, or_false] at ho
      rcases ho with rfl | rfl | rfl | rfl
      · exact ⟨bdd_mid (by omega) bA bB (by simp), rankB_odd fun _ => nofun⟩
      · exact ⟨bdd_mid (by omega) bA bB (by simp), rankB_odd fun _ => nofun⟩
      · exact ⟨bdd_mid (by omega) bA bB (by simp), rankB_odd fun _ => nofun⟩
      · exact ⟨bdd_mid (by omega) bA bB (by simp), rankB_odd fun _ => nofun⟩
  refine ⟨d, ?_, bE d md⟩
  have s0 : leS 0 := size_le (by omega)
  have s1 : leS 1 := size_le (by omega)
  have s2 : leS 2 := size_le (by omega)
  have t1 : leS (L.length + C.length) := size_le (by omega)
  have t2 : leS (A.length + 2) := size_le (by omega)
  have t3 : leS (A.length + (B.length + 1)) := size_le (by omega)
  have t4 : leS (A.length + 1) := size_le (by omega)
  have t5 : leS (A.length + B.length) := size_le (by omega)
  have t6 : leS (A.length + 2 + B.length) := size_le (by omega)
  have t7 : leS (A.length + 1 + B.length) := size_le (by omega)
  have t8 : leS (A.length + B.length + 1) := size_le (by omega)
  have sP : leS P.length := size_le (by omega)
  have sP2 : leS P2.length := size_le (by omega)
  have sP3 : leS (P.length + P2.length) := size_le (by omega)
  have sO : leS O.length := size_le (by omega)
  have em : modO (.int (n / 16)) (.int (L.length : Int)) = some (.val (.int (k : Int))) := by rw [mod_ok (by omega), hk]
  unfold F_law_no_line p_law_no_line
  simp only [x_runF]
  simp only [List.cons_append, List.nil_append] at hP hP2
  simp -implicitDefEqProofs [em, c1, c2, c3, hz, s0, s1, s2, t1, t2, t3, t4, t5, t6, t7, t8, hP, hP2, hO, sP, sP2, sP3, sO, e, ml, ed]

end DL

noncomputable section
namespace DL
open PySem L2

theorem cut_initE {K : List Int} {z : Int} : cutI (K ++ [z]) none (some (-1)) = K := by
  unfold cutI HT.sIx
  simp
  have : (-1 + ((K.length : Int) + 1)).toNat = K.length := by omega
  rw [this]
  simp
theorem rep_len (n : Nat) (D : List PyData) : (List.replicate n D).flatten.length = n * D.length := by
  induction n with
  | zero => simp
  | succ n ih => rw [List.replicate_succ, List.flatten_cons, List.length_append, ih, Nat.succ_mul]; omega
theorem folkB_noE {d : PyData} (h : ∀ f : List (List Int), Folk f → d ≠ .list (f.map llD)) : folkB d = false := by
  rw [Bool.eq_false_iff]
  intro z
  obtain ⟨f, e, hf⟩ := folkB_iff.mp z
  exact h f hf e
theorem nf_memE {ds : List PyData} {x : PyData} (hx : x ∈ ds) (h : rankB x = false) : folkB (.list ds) = false := folkB_noE fun g hg z => by
  have z := PyData.list.inj z
  rw [z] at hx
  obtain ⟨r, hr, rfl⟩ := List.mem_map.mp hx
  have := (hg.2.2 r hr).1
  rw [llD, rankB_ints] at h
  exact of_decide_eq_false h this
theorem nf_twoE {ds : List PyData} {a r : List Int} (ha : llD a ∈ ds) (hr : llD r ∈ ds) (h : ¬ r.Perm a) : folkB (.list ds) = false := folkB_noE fun g hg z => by
  have z := PyData.list.inj z
  rw [z] at ha hr
  obtain ⟨a', ha', e1⟩ := List.mem_map.mp ha
  obtain ⟨r', hr', e2⟩ := List.mem_map.mp hr
  rw [llD_inj e1] at ha'
  rw [llD_inj e2] at hr'
  exact h ((hg.2.2 a ha').2 r hr')
theorem nf_noE {d : PyData} (h : ∀ ds, d ≠ .list ds) : folkB d = false := folkB_noE fun g _ z => h _ z
theorem no_folk_ok {f : List (List Int)} {L : List Int} {n : Int} {w : Pw} (h0 : 0 < f.length) (h20 : f.length ≤ 20) (hf : ∀ r ∈ f, r.Perm L) (hL : Rank L) (h2 : 2 ≤ L.length) : ∃ d, F_law_no_folk [.val (.list ((f).map llD)), .val (.int (n))] w = .ok (.val d) w ∧ bdd 3 d ∧ folkB d = false := by
  have l10 := hL.2.2.2
  obtain ⟨k, hk, hk2⟩ := mod_nat (n := n / 16) (m := f.length) h0
  obtain ⟨r, hr⟩ : ∃ r, f[k]? = some r := ⟨f[k], List.getElem?_eq_getElem hk2⟩
  have mr := List.mem_of_getElem? hr
  have pr := hf r mr
  have rr := hL.perm pr
  have lr := pr.length_eq
  obtain ⟨D, hD⟩ : ∃ D, f.map llD = D := ⟨_, rfl⟩
  have lD : D.length = f.length := by rw [← hD, List.length_map]
  have dk : atI D (k : Int) = some (.list (r.map .int)) := by rw [← hD, atI_mapF, atI_nat, hr]; rfl
  obtain ⟨A, hA⟩ : ∃ A, D.take k = A := ⟨_, rfl⟩
  obtain ⟨B, hB⟩ : ∃ B, D.drop (k + 1) = B := ⟨_, rfl⟩
  have eD : D = A ++ .list (r.map .int) :: B := by
    rw [← hA, ← hB]
    have hD2 : D[k]? = some (.list (r.map .int)) := by rw [← hD, List.getElem?_map, hr]; rfl
    obtain ⟨hk3, e3⟩ := List.getElem?_eq_some_iff.mp hD2
    rw [← e3, ← List.drop_eq_getElem_cons hk3]
    exact (List.take_append_drop k D).symm
  have lA : A.length = k := by rw [← hA, List.length_take]; omega
  have lB : B.length = f.length - (k + 1) := by rw [← hB, List.length_drop, lD]
  have c1 : cutD D none (some (k : Int)) = A := by rw [← hA]; exact cut_to
  have c2 : cutD D (some ((k : Int) + 1)) none = B := by
    have e : ((k : Int) + 1) = ((k + 1 : Nat) : Int) := by omega
    rw [e, ← hB]; exact cut_from
  obtain ⟨K, z, hK⟩ : ∃ K z, r = K ++ [z] := (snoc_of r).resolve_left (by intro z; subst z; simp at lr; omega)
  have lK : K.length + 1 = r.length := by rw [hK]; simp
  obtain ⟨x, K2, hK2⟩ : ∃ x K2, K = x :: K2 := by
    cases K with
    | nil => simp at lK; omega
    | cons x K2 => exact ⟨x, K2, rfl⟩
  obtain ⟨KI, hKI⟩ : ∃ KI, K.map PyData.int = KI := ⟨_, rfl⟩
  have lKI : KI.length = K.length := by rw [← hKI, List.length_map]
  have c3 : cutD (r.map PyData.int) none (some (-1)) = KI := by
    rw [cutD_map, hK, cut_initE, ← hKI]
  have c4 : cutD (r.map PyData.int) none (some 1) = [.int x] := by
    rw [cutD_map]
    have e1 : cutI r none (some 1) = r.take 1 := cut_to (k := 1)
    rw [e1, hK, hK2]; rfl
  have hrn : r ≠ [] := by intro z; subst z; simp at lK
  obtain ⟨fa, hfa⟩ : ∃ fa, maxI r + 1 = fa := ⟨_, rfl⟩
  have nfa : fa ∉ r := fun m => by have := (maxI_facts hrn).1 fa m; omega
  have mx : maxO [.list (r.map .int)] = some (.val (.int (maxI r))) := max_ints hrn
  obtain ⟨Rp, hRp⟩ : ∃ Rp, (List.replicate 21 D).flatten = Rp := ⟨_, rfl⟩
  have lRp : Rp.length = 21 * f.length := by rw [← hRp, ← lD]; exact rep_len 21 D
  have mul21 : mulO (.list D) (.int 21) = some (.new Rp) := by
    rw [x_mulL, ← hRp]
    exact if_pos ⟨inW_of (by omega) (by omega), size_le (by rw [lD, show (21 : Int).toNat = 21 from rfl]; omega)⟩
  have c5 : cutD Rp none (some 21) = Rp.take 21 := cut_to (k := 21)
  obtain ⟨R21, hR21⟩ : ∃ R21, Rp.take 21 = R21 := ⟨_, rfl⟩
  have lR : R21.length = 21 := by rw [← hR21, List.length_take]; omega
  -- the row with a truth
  obtain ⟨g, hg⟩ : ∃ g : Int → PyData, g = fun y => if y = 1 then .bool true else .int y := ⟨_, rfl⟩
  have el : l_law_no_folk_1 ⟨[.val (.list D), .val (.int (n)), .val (.int (k)), .val (.list ((r).map .int)), .val (.int (fa)), .own [.list [], .list R21, .tuple D, .none, .list (A ++ .list KI :: (B ++ [.list (r.map .int)])), .list (D ++ [.list (KI ++ [.int fa])]), .list (D ++ [.list (KI ++ [.int x])])], .no, .no], w⟩ = .ok (.new (r.map g)) ⟨[.val (.list D), .val (.int (n)), .val (.int (k)), .val (.list ((r).map .int)), .val (.int (fa)), .own [.list [], .list R21, .tuple D, .none, .list (A ++ .list KI :: (B ++ [.list (r.map .int)])), .list (D ++ [.list (KI ++ [.int fa])]), .list (D ++ [.list (KI ++ [.int x])])], .no, .no], w⟩ := by
    refine lc_all (fun y : Int => ⟨[.val (.list D), .val (.int (n)), .val (.int (k)), .val (.list ((r).map .int)), .val (.int (fa)), .own [.list [], .list R21, .tuple D, .none, .list (A ++ .list KI :: (B ++ [.list (r.map .int)])), .list (D ++ [.list (KI ++ [.int fa])]), .list (D ++ [.list (KI ++ [.int x])])], .no, .val (.int (y))], w⟩) _ (f := .int) (l := r) (by simp -implicitDefEqProofs) (by omega) rfl (fun a _ => by rfl) (fun a _ => by rfl) (fun y hy => ?_)
    have s2 : leS 2 := size_le (by omega)
    unfold e_law_no_folk_1
    rw [hg]
    by_cases q : y = 1
    · simp -implicitDefEqProofs [q, s2]
    · simp -implicitDefEqProofs [q, s2]
  obtain ⟨T, hT⟩ : ∃ T : List PyData, (if 1 ∈ r then [] else [.int fa]) = T := ⟨_, rfl⟩
  have lT : T.length ≤ 1 := by rw [← hT]; split <;> simp
  have em2 : mulO (.list [PyData.int fa]) (.int (if 1 ∈ r then 0 else 1)) = some (.new T) := by
    by_cases q : 1 ∈ r
    · rw [x_mulL, ← hT, if_pos q, if_pos q]
      exact if_pos ⟨inW_of (by omega) (by omega), size_le (by simp)⟩
    · rw [x_mulL, ← hT, if_neg q, if_neg q]
      exact if_pos ⟨inW_of (by omega) (by omega), size_le (by simp)⟩
  obtain ⟨P, hP⟩ : ∃ P : List PyData, [PyData.list [], .list R21, .tuple D, .none, .list (A ++ .list KI :: (B ++ [.list (r.map .int)])), .list (D ++ [.list (KI ++ [.int fa])]), .list (D ++ [.list (KI ++ [.int x])]), .list (D ++ [.list (r.map g ++ T)])] = P := ⟨_, rfl⟩
  have lP : P.length = 8 := by rw [← hP]; rfl
  obtain ⟨P2, hP2⟩ : ∃ P2 : List PyData, [PyData.list (A ++ .tuple (r.map .int) :: B), .list (A ++ .none :: B)] = P2 := ⟨_, rfl⟩
  have lP2 : P2.length = 2 := by rw [← hP2]; rfl
  obtain ⟨O, hO⟩ : ∃ O : List PyData, [PyData.none, .str "1", .list [.int 0], .tuple [.int 0]] = O := ⟨_, rfl⟩
  have lO : O.length = 4 := by rw [← hO]; rfl
  obtain ⟨s', e, v6, rfl⟩ := loopN (b := bName 6) (p := b_law_no_folk_2) (f := id) (l := O) (s := ⟨[.val (.list D), .val (.int (n)), .val (.int (k)), .val (.list ((r).map .int)), .val (.int (fa)), .own (P ++ P2), .no, .no], w⟩)
    (fun i s => ∃ v6, s = ⟨[.val (.list D), .val (.int (n)), .val (.int (k)), .val (.list ((r).map .int)), .val (.int (fa)), .own ((P ++ P2) ++ (O.take i).map fun o => .list (A ++ .list (KI ++ [o]) :: B)), v6, .no], w⟩) ⟨.no, by simp⟩ (by
      rintro i o s hi hm ⟨v6, rfl⟩
      have hi2 := (List.getElem?_eq_some_iff.mp hi).1
      rw [take_succ hi, List.map_append]
      obtain ⟨U, hU⟩ : ∃ U, (O.take i).map (fun o => PyData.list (A ++ .list (KI ++ [o]) :: B)) = U := ⟨_, rfl⟩
      have lU : U.length = i := by rw [← hU, List.length_map, List.length_take]; omega
      rw [hU]
      have lt : ltS (P.length + (P2.length + U.length)) := size_lt (by omega)
      have lt2 : ltS (P.length + P2.length + U.length) := size_lt (by omega)
      have t1 : leS (A.length + 1) := size_le (by omega)
      have t2 : leS (A.length + 1 + B.length) := size_le (by omega)
      have t3 : leS (KI.length + 1) := size_le (by omega)
      unfold b_law_no_folk_2
      simp -implicitDefEqProofs [c1, c2, c3, lt, lt2, t1, t2, t3])
  have es : O.take O.length = O := List.take_length
  rw [es, List.map_id] at e
  have ml : ((P ++ P2) ++ O.map fun o => PyData.list (A ++ .list (KI ++ [o]) :: B)).length = 14 := by simp [lP, lP2, lO]
  obtain ⟨E, hE⟩ : ∃ E, ((P ++ P2) ++ O.map fun o => PyData.list (A ++ .list (KI ++ [o]) :: B)) = E := ⟨_, rfl⟩
  rw [hE] at e ml
  obtain ⟨d, md, ed⟩ := at_mod (E := E) (n := n) (by omega)
  rw [ml] at ed
  have ed : atI E (n % 14) = some d := ed
  have bD : ∀ d ∈ D, bdd 1 d := by
    intro d hd
    rw [← hD] at hd
    obtain ⟨q, hq, rfl⟩ := List.mem_map.mp hd
    exact bdd_ints (by rw [(hf q hq).length_eq]; omega)
  have bA : ∀ d ∈ A, bdd 1 d := fun d hd => bD d (by rw [eD]; exact List.mem_append_left _ hd)
  have bB : ∀ d ∈ B, bdd 1 d := fun d hd => bD d (by rw [eD]; exact List.mem_append_right _ (List.mem_cons_of_mem _ hd))
  have bA2 : ∀ d ∈ A, bdd 2 d := fun d hd => bdd_up (by omega) (bA d hd)
  have bB2 : ∀ d ∈ B, bdd 2 d := fun d hd => bdd_up (by omega) (bB d hd)
  have bD2 : ∀ d ∈ D, bdd 2 d := fun d hd => bdd_up (by omega) (bD d hd)
  have bK : ∀ {m : Nat}, ∀ d ∈ KI, bdd m d := by rw [← hKI]; exact bdd_at
  have rD : llD r ∈ D := by rw [eD]; exact List.mem_append_right _ List.mem_cons_self
  have bDx : ∀ x : PyData, bdd 2 x → bdd 3 (.list (D ++ [x])) := fun x hx => bdd_mid (B := []) (by simp; omega) bD2 (by simp) hx
  have bKx : ∀ x : PyData, bdd 1 x → bdd 2 (.list (KI ++ [x])) := fun x hx => bdd_mid (B := []) (by simp; omega) bK (by simp) hx
  have bE : ∀ d ∈ E, bdd 3 d ∧ folkB d = false := by
    intro d hd
    rw [← hE] at hd
    rcases List.mem_append.mp hd with hd | hd
    · rcases List.mem_append.mp hd with hd | hd
      · rw [← hP] at hd
        simp only [List.mem_cons, List.not_mem_nil, or_false] at hd
        rcases hd with rfl | rfl | rfl | rfl | rfl | rfl | rfl | rfl
        · exact ⟨by simp, folkB_noE fun g hg z => by have := hg.1; have z := congrArg List.length (PyData.list.inj z); rw [List.length_map] at z; simp at z; omega⟩
        · refine ⟨bdd_list.mpr ⟨by omega, fun d hd => ?_⟩, folkB_noE fun g hg z => ?_⟩
          · rw [← hR21, ← hRp] at hd
            have hd := List.mem_of_mem_take hd
            obtain ⟨l, hl, hd⟩ := List.mem_flatten.mp hd
            rw [(List.mem_replicate.mp hl).2] at hd
            exact bD2 d hd
          · have z := congrArg List.length (PyData.list.inj z)
            rw [lR, List.length_map] at z
            have := hg.2.1
            omega
        · exact ⟨bdd_tuple.mpr ⟨by omega, bD2⟩, nf_noE fun _ => nofun⟩
        · exact ⟨by simp, nf_noE fun _ => nofun⟩
        · refine ⟨bdd_mid (by simp; omega) bA2 (fun d hd => ?_) (by rw [← hKI]; exact bdd_ints (by omega)), nf_twoE (a := r) (r := K) (by simp [llD]) (by rw [← hKI]; simp [llD]) fun z => by have := z.length_eq; omega⟩
          rcases List.mem_append.mp hd with hd | hd
          · exact bB2 d hd
          · rw [List.mem_singleton] at hd
            rw [hd]
            exact bdd_ints (by omega)
        · refine ⟨bDx _ (bKx _ (by simp)), ?_⟩
          have e1 : PyData.list (KI ++ [.int fa]) = llD (K ++ [fa]) := by rw [← hKI]; simp [llD]
          rw [e1]
          exact nf_twoE (a := r) (r := K ++ [fa]) (List.mem_append_left _ rD) (by simp) fun z => nfa (z.mem_iff.mp (by simp))
        · refine ⟨bDx _ (bKx _ (by simp)), ?_⟩
          have e1 : PyData.list (KI ++ [.int x]) = .list ((K ++ [x]).map .int) := by rw [← hKI]; simp
          rw [e1]
          refine nf_memE (x := .list ((K ++ [x]).map .int)) (by simp) (rankB_no fun z => ?_)
          have := z.1
          rw [hK2] at this
          simp at this
        · by_cases q : 1 ∈ r
          · have mg : PyData.bool true ∈ r.map g := List.mem_map.mpr ⟨1, q, by rw [hg]; rfl⟩
            obtain ⟨a1, a2, ea⟩ := List.append_of_mem mg
            have e1 : r.map g ++ T = a1 ++ .bool true :: (a2 ++ T) := by rw [ea]; simp
            refine ⟨bDx _ (bdd_list.mpr ⟨by simp; omega, fun d hd => ?_⟩), nf_memE (x := .list (r.map g ++ T)) (by simp) (by rw [e1]; exact rankB_odd fun _ => nofun)⟩
            rcases List.mem_append.mp hd with hd | hd
            · obtain ⟨y, _, rfl⟩ := List.mem_map.mp hd
              rw [hg]; dsimp only; split <;> simp
            · rw [← hT, if_pos q] at hd; simp at hd
          · have e1 : r.map g ++ T = (r ++ [fa]).map .int := by
              rw [← hT, if_neg q, List.map_append]
              congr 1
              exact List.map_congr_left fun y hy => by rw [hg]; exact if_neg (by rintro rfl; exact q hy)
            rw [e1]
            exact ⟨bDx _ (bdd_ints (by simp; omega)), nf_twoE (a := r) (r := r ++ [fa]) (List.mem_append_left _ rD) (by simp [llD]) fun z => by have := z.length_eq; simp at this⟩
      · rw [← hP2] at hd
        simp only [List.mem_cons, List.not_mem_nil, or_false] at hd
        rcases hd with rfl | rfl
        · exact ⟨bdd_mid (by omega) bA2 bB2 (bdd_tuple.mpr ⟨by simp; omega, bdd_at⟩), nf_memE (x := .tuple (r.map .int)) (by simp) rfl⟩
        · exact ⟨bdd_mid (by omega) bA2 bB2 (by simp), nf_memE (x := .none) (by simp) rfl⟩
    · obtain ⟨o, ho, rfl⟩ := List.mem_map.mp hd
      have hx : bdd 1 o ∧ ∀ z, o ≠ .int z := by
        rw [← hO] at ho
        simp only [List.mem_cons, List.not_mem_nil, or_false] at ho
        rcases ho with rfl | rfl | rfl | rfl <;> exact ⟨by simp, fun _ => nofun⟩
      exact ⟨bdd_mid (by omega) bA2 bB2 (bKx o hx.1), nf_memE (x := .list (KI ++ [o])) (by simp) (rankB_odd (B := []) hx.2)⟩
  refine ⟨d, ?_, bE d md⟩
  have s0 : leS 0 := size_le (by omega)
  have s1 : leS 1 := size_le (by omega)
  have s2 : leS 2 := size_le (by omega)
  have s5 : leS 5 := size_le (by omega)
  have s5' : ltS 5 := size_lt (by omega)
  have s6' : ltS 6 := size_lt (by omega)
  have s7' : ltS 7 := size_lt (by omega)
  have t1 : leS (A.length + 1) := size_le (by omega)
  have t2 : leS (A.length + 1 + B.length) := size_le (by omega)
  have t3 : leS (A.length + 1 + B.length + 1) := size_le (by omega)
  have t3' : leS (A.length + (B.length + 1)) := size_le (by omega)
  have t3'' : leS (A.length + (B.length + 1) + 1) := size_le (by omega)
  have t4 : leS (KI.length + 1) := size_le (by omega)
  have t5 : leS (D.length + 1) := size_le (by omega)
  have t6 : leS (r.length + T.length) := size_le (by omega)
  have sP : leS P.length := size_le (by omega)
  have sP2 : leS P2.length := size_le (by omega)
  have sP3 : leS (P.length + P2.length) := size_le (by omega)
  have sO : leS O.length := size_le (by omega)
  have sD : leS D.length := size_le (by omega)
  have em : modO (.int (n / 16)) (.int (D.length : Int)) = some (.val (.int (k : Int))) := by rw [lD, mod_ok (by omega), hk]
  unfold F_law_no_folk p_law_no_folk
  simp only [x_runF, hD]
  simp -implicitDefEqProofs [em, dk, mx, hfa, mul21, c5, hR21, c1, c2, c3, c4, el, em2, -x_mulL, s0, s1, s2, s5, s5', s6', s7', t1, t2, t3, t3', t3'', t4, t5, t6, hP, hP2, hO, sP, sP2, sP3, sO, sD, e, ml, ed]

end DL

noncomputable section
namespace DL
open PySem L2
def b_must_fall_v2_1 : DSt → Flow := fIfS (fNot (fB (fUser F_does_fall (fCons (fVar 1) (fCons (fVar 3) fNil))))) (fRaiseA "NoFall" (fVar 2)) fnext
abbrev o_must_fall_v2_1 : List PyData → DSt → Flow := loopF (bTup 2 (bCons (bName 2) (bCons (bName 3) bNil))) b_must_fall_v2_1
def p_must_fall_v2 : DSt → Flow := fseq (fDrop (fUser F_must_be_line (fCons (fVar 1) fNil))) (fseq (fIfS (fB (fOp (lift2 neO) (fCall sortedO (pCons (fVar 1) fNil)) (fCall sortedO (pCons (fOp (lift2 ixO) (fVar 0) (fC (.int 0))) fNil)))) (fRaise "NoFit") fnext) (fFor (fEnum (fCons (fVar 0) fNil)) (bTup 2 (bCons (bName 2) (bCons (bName 3) bNil))) b_must_fall_v2_1))
def F_must_fall_v2 : List R → Pw → FRes := runF 4 2 p_must_fall_v2
def t_beaters_1 : M Bool := fAnd (fB (fOp (lift2 neO) (fVar 4) (fVar 3))) (fB (fOp (lift2 gtO) (fUser F_lead (fCons (fVar 0) (fCons (fVar 1) (fCons (fVar 4) (fCons (fVar 3) fNil))))) (fC (.int 0))))
def e_beaters_2 : M R := fVar 4
abbrev l_beaters_2 : M R := fLc (fLstI (fVar 2)) (bName 4) (t_beaters_1) (e_beaters_2) [4]
def p_beaters : DSt → Flow := fRet (fLc (fLstI (fVar 2)) (bName 4) (t_beaters_1) (e_beaters_2) [4])
def F_beaters : List R → Pw → FRes := runF 5 4 p_beaters
def b_order_wrong_1 : DSt → Flow := fseq (fSet 5 (fUser F_beaters (fCons (fVar 0) (fCons (fVar 1) (fCons (fSlice (fVar 2) (fPart (fOp (lift2 addO) (fVar 3) (fC (.int 1)))) fNoPart) (fCons (fVar 4) fNil)))))) (fIfS (fB (fOp (lift2 neO) (fVar 5) (fLst fNil))) (fRet (fTup (fCons (fC (.str "ahead")) (fCons (fVar 4) (fCons (fOp (lift2 ixO) (fVar 5) (fC (.int 0))) fNil))))) fnext)
abbrev o_order_wrong_1 : List PyData → DSt → Flow := loopF (bTup 2 (bCons (bName 3) (bCons (bName 4) bNil))) b_order_wrong_1
def p_order_wrong : DSt → Flow := fseq (fIfS (fOr (fNot (fB (fUser F_are_unlike_names (fCons (fVar 2) fNil)))) (fB (fOp (lift2 neO) (fCall sortedO (pCons (fVar 2) fNil)) (fCall sortedO (pCons (fOp (lift2 ixO) (fVar 0) (fC (.int 0))) fNil))))) (fRet (fTup (fCons (fC (.str "order")) fNil))) fnext) (fseq (fFor (fEnum (fCons (fVar 2) fNil)) (bTup 2 (bCons (bName 3) (bCons (bName 4) bNil))) b_order_wrong_1) (fRet (fC .none)))
def F_order_wrong : List R → Pw → FRes := runF 6 3 p_order_wrong
def e_ring_wrong_1 : M R := fOp (lift2 inO) (fVar 4) (fOp (lift2 ixO) (fVar 0) (fC (.int 0)))
abbrev l_ring_wrong_1 : M R := fLc (fLstI (fVar 2)) (bName 4) fYes (e_ring_wrong_1) [4]
def b_ring_wrong_2 : DSt → Flow := fIfS (fB (fOp (lift2 leO) (fUser F_lead (fCons (fVar 0) (fCons (fVar 1) (fCons (fVar 4) (fCons (fOp (lift2 ixO) (fVar 2) (fOp (lift2 modO) (fOp (lift2 addO) (fVar 3) (fC (.int 1))) (fCall lenO (pCons (fVar 2) fNil)))) fNil))))) (fC (.int 0)))) (fRet (fTup (fCons (fC (.str "beats")) (fCons (fVar 3) fNil)))) fnext
abbrev o_ring_wrong_2 : List PyData → DSt → Flow := loopF (bTup 2 (bCons (bName 3) (bCons (bName 4) bNil))) b_ring_wrong_2
def p_ring_wrong : DSt → Flow := fseq (fIfS (fOr (fNot (fB (fUser F_are_unlike_names (fCons (fVar 2) fNil)))) (fOr (fB (fOp (lift2 ltO) (fCall lenO (pCons (fVar 2) fNil)) (fC (.int 3)))) (fNot (fB (fCall allO (pCons (fLc (fLstI (fVar 2)) (bName 4) fYes (e_ring_wrong_1) [4]) fNil)))))) (fRet (fTup (fCons (fC (.str "ring")) fNil))) fnext) (fseq (fFor (fEnum (fCons (fVar 2) fNil)) (bTup 2 (bCons (bName 3) (bCons (bName 4) bNil))) b_ring_wrong_2) (fRet (fC .none)))
def F_ring_wrong : List R → Pw → FRes := runF 5 3 p_ring_wrong
def p_order_judged : DSt → Flow := fseq (fDrop (fUser F_must_be_weighed (fCons (fVar 0) (fCons (fVar 1) fNil)))) (fseq (fIfS (fOr (fNot (fB (fIsi "tuple" (fVar 2)))) (fOr (fB (fOp (lift2 neO) (fCall lenO (pCons (fVar 2) fNil)) (fC (.int 2)))) (fNot (fB (fIsi "str" (fOp (lift2 ixO) (fVar 2) (fC (.int 0)))))))) (fRet (fTup (fCons (fC (.str "paper")) fNil))) fnext) (fseq (fIfS (fB (fOp (lift2 eqO) (fOp (lift2 ixO) (fVar 2) (fC (.int 0))) (fC (.str "order")))) (fRet (fUser F_order_wrong (fCons (fVar 0) (fCons (fVar 1) (fCons (fOp (lift2 ixO) (fVar 2) (fC (.int 1))) fNil))))) fnext) (fseq (fIfS (fB (fOp (lift2 eqO) (fOp (lift2 ixO) (fVar 2) (fC (.int 0))) (fC (.str "ring")))) (fRet (fUser F_ring_wrong (fCons (fVar 0) (fCons (fVar 1) (fCons (fOp (lift2 ixO) (fVar 2) (fC (.int 1))) fNil))))) fnext) (fRet (fTup (fCons (fC (.str "paper")) fNil))))))
def F_order_judged : List R → Pw → FRes := runF 3 3 p_order_judged
def c_ring_among_1 : M Bool := fB (fOp (lift2 notInO) (fVar 4) (fVar 3))
def b_ring_among_2 : DSt → Flow := fseq (fDrop (fApp 3 (fVar 4))) (fSet 4 (fOp (lift2 ixO) (fUser F_beaters (fCons (fVar 0) (fCons (fVar 1) (fCons (fVar 2) (fCons (fOp (lift2 ixO) (fVar 3) (fUn (lift1 negO) (fC (.int 1)))) fNil))))) (fC (.int 0))))
abbrev o_ring_among_2 : DSt → Flow := whileF c_ring_among_1 b_ring_among_2 10000
def p_ring_among : DSt → Flow := fseq (fSet 3 (fLst (fCons (fOp (lift2 ixO) (fVar 2) (fC (.int 0))) fNil))) (fseq (fSet 4 (fOp (lift2 ixO) (fUser F_beaters (fCons (fVar 0) (fCons (fVar 1) (fCons (fVar 2) (fCons (fOp (lift2 ixO) (fVar 3) (fUn (lift1 negO) (fC (.int 1)))) fNil))))) (fC (.int 0)))) (fseq (whileF c_ring_among_1 b_ring_among_2 10000) (fRet (fUn (lift1 revO) (fSlice (fVar 3) (fPart (fIndex (fVar 3) (fVar 4))) fNoPart)))))
def F_ring_among : List R → Pw → FRes := runF 5 3 p_ring_among
def t_order_of_v3_1 : M Bool := fB (fOp (lift2 eqO) (fUserP F_beaters (pCons (fVar 0) (pCons (fVar 1) (pCons (fVar 2) (pCons (fVar 5) fNil))))) (fLst fNil))
def e_order_of_v3_2 : M R := fVar 5
abbrev l_order_of_v3_2 : M R := fLcO 2 (bName 5) (t_order_of_v3_1) (e_order_of_v3_2) [5]
def c_order_of_v3_3 : M Bool := fB (fOp (lift2 neO) (fVar 2) (fLst fNil))
def b_order_of_v3_4 : DSt → Flow := fseq (fSet 4 (fLcO 2 (bName 5) (t_order_of_v3_1) (e_order_of_v3_2) [5])) (fseq (fIfS (fB (fOp (lift2 eqO) (fVar 4) (fLst fNil))) (fRet (fTup (fCons (fC (.str "ring")) (fCons (fUserP F_ring_among (pCons (fVar 0) (pCons (fVar 1) (pCons (fVar 2) fNil)))) fNil)))) fnext) (fseq (fDrop (fApp 3 (fOp (lift2 ixO) (fVar 4) (fC (.int 0))))) (fDrop (fRem 2 (fOp (lift2 ixO) (fVar 4) (fC (.int 0)))))))
abbrev o_order_of_v3_4 : DSt → Flow := whileF c_order_of_v3_3 b_order_of_v3_4 10000
def p_order_of_v3 : DSt → Flow := fseq (fDrop (fUser F_must_be_weighed (fCons (fVar 0) (fCons (fVar 1) fNil)))) (fseq (fSet 2 (fCall sortedO (pCons (fOp (lift2 ixO) (fVar 0) (fC (.int 0))) fNil))) (fseq (fSet 3 (fLst fNil)) (fseq (whileF c_order_of_v3_3 b_order_of_v3_4 10000) (fRet (fTup (fCons (fC (.str "order")) (fCons (fVar 3) fNil)))))))
def F_order_of_v3 : List R → Pw → FRes := runF 6 2 p_order_of_v3
def t_unbeaten_1 : M Bool := fB (fOp (lift2 eqO) (fUser F_beaters (fCons (fVar 0) (fCons (fVar 1) (fCons (fOp (lift2 ixO) (fVar 0) (fC (.int 0))) (fCons (fVar 2) fNil))))) (fLst fNil))
def e_unbeaten_2 : M R := fVar 2
abbrev l_unbeaten_2 : M R := fLc (fLstI (fCall sortedO (pCons (fOp (lift2 ixO) (fVar 0) (fC (.int 0))) fNil))) (bName 2) (t_unbeaten_1) (e_unbeaten_2) [2]
def p_unbeaten : DSt → Flow := fseq (fDrop (fUser F_must_be_weighed (fCons (fVar 0) (fCons (fVar 1) fNil)))) (fRet (fLc (fLstI (fCall sortedO (pCons (fOp (lift2 ixO) (fVar 0) (fC (.int 0))) fNil))) (bName 2) (t_unbeaten_1) (e_unbeaten_2) [2]))
def F_unbeaten : List R → Pw → FRes := runF 3 2 p_unbeaten
def t_first_half_1 : M Bool := fB (fOp (lift2 eqO) (fOp (lift2 ixO) (fVar 5) (fC (.int 0))) (fVar 4))
def e_first_half_2 : M R := fVar 6
abbrev l_first_half_2 : M R := fLc (fZip (fCons (fVar 0) (fCons (fVar 1) fNil))) (bTup 2 (bCons (bName 5) (bCons (bName 6) bNil))) (t_first_half_1) (e_first_half_2) [5, 6]
def b_first_half_3 : DSt → Flow := fseq (fAug 3 (fun a b => a + b) (fCall sumO (pCons (fLc (fZip (fCons (fVar 0) (fCons (fVar 1) fNil))) (bTup 2 (bCons (bName 5) (bCons (bName 6) bNil))) (t_first_half_1) (e_first_half_2) [5, 6]) fNil))) (fIfS (fB (fOp (lift2 geO) (fOp (lift2 mulO) (fC (.int 2)) (fVar 3)) (fCall sumO (pCons (fVar 1) fNil)))) (fRet (fVar 4)) fnext)
abbrev o_first_half_3 : List PyData → DSt → Flow := loopF (bName 4) b_first_half_3
def p_first_half : DSt → Flow := fseq (fSet 3 (fC (.int 0))) (fFor (fLstI (fVar 2)) (bName 4) b_first_half_3)
def F_first_half : List R → Pw → FRes := runF 7 3 p_first_half
def p_middle_v2 : DSt → Flow := fseq (fDrop (fUser F_must_be_weighed (fCons (fVar 0) (fCons (fVar 1) fNil)))) (fseq (fDrop (fUser F_must_fall_v2 (fCons (fVar 0) (fCons (fVar 2) fNil)))) (fRet (fTup (fCons (fUser F_first_half (fCons (fVar 0) (fCons (fVar 1) (fCons (fVar 2) fNil)))) (fCons (fUser F_first_half (fCons (fVar 0) (fCons (fVar 1) (fCons (fUn (lift1 revO) (fVar 2)) fNil)))) fNil)))))
def F_middle_v2 : List R → Pw → FRes := runF 3 3 p_middle_v2
def e_paid_1 : M R := fIndex (fVar 4) (fVar 6)
abbrev l_paid_1 : M R := fLc (fLstI (fVar 2)) (bName 6) fYes (e_paid_1) [6]
def b_paid_2 : DSt → Flow := fAug 3 (fun a b => a + b) (fOp (lift2 mulO) (fVar 5) (fCall minO (pCons (fLc (fLstI (fVar 2)) (bName 6) fYes (e_paid_1) [6]) fNil)))
abbrev o_paid_2 : List PyData → DSt → Flow := loopF (bTup 2 (bCons (bName 4) (bCons (bName 5) bNil))) b_paid_2
def p_paid : DSt → Flow := fseq (fSet 3 (fC (.int 0))) (fseq (fFor (fZip (fCons (fVar 0) (fCons (fVar 1) fNil))) (bTup 2 (bCons (bName 4) (bCons (bName 5) bNil))) b_paid_2) (fRet (fVar 3)))
def F_paid : List R → Pw → FRes := runF 7 3 p_paid
def e_cost_1 : M R := fOp (lift2 inO) (fVar 3) (fOp (lift2 ixO) (fVar 0) (fC (.int 0)))
abbrev l_cost_1 : M R := fLc (fLstI (fVar 2)) (bName 3) fYes (e_cost_1) [3]
def p_cost : DSt → Flow := fseq (fDrop (fUser F_must_be_weighed (fCons (fVar 0) (fCons (fVar 1) fNil)))) (fseq (fIfS (fOr (fNot (fB (fUser F_are_unlike_names (fCons (fVar 2) fNil)))) (fOr (fB (fOp (lift2 ltO) (fCall lenO (pCons (fVar 2) fNil)) (fC (.int 1)))) (fNot (fB (fCall allO (pCons (fLc (fLstI (fVar 2)) (bName 3) fYes (e_cost_1) [3]) fNil)))))) (fRaise "NoNames") fnext) (fRet (fUser F_paid (fCons (fVar 0) (fCons (fVar 1) (fCons (fVar 2) fNil))))))
def F_cost : List R → Pw → FRes := runF 4 3 p_cost
def b_gain_1 : DSt → Flow := fAug 4 (fun a b => a + b) (fOp (lift2 mulO) (fVar 6) (fCall maxO (pCons (fC (.int 0)) (pCons (fOp (lift2 subO) (fIndex (fVar 5) (fVar 2)) (fIndex (fVar 5) (fVar 3))) fNil))))
abbrev o_gain_1 : List PyData → DSt → Flow := loopF (bTup 2 (bCons (bName 5) (bCons (bName 6) bNil))) b_gain_1
def p_gain : DSt → Flow := fseq (fSet 4 (fC (.int 0))) (fseq (fFor (fZip (fCons (fVar 0) (fCons (fVar 1) fNil))) (bTup 2 (bCons (bName 5) (bCons (bName 6) bNil))) b_gain_1) (fRet (fVar 4)))
def F_gain : List R → Pw → FRes := runF 7 4 p_gain
def e_bounds_1 : M R := fOp (lift2 subO) (fOp (lift2 ixO) (fVar 3) (fVar 6)) (fUser F_gain (fCons (fVar 0) (fCons (fVar 1) (fCons (fOp (lift2 ixO) (fVar 2) (fVar 6)) (fCons (fOp (lift2 ixO) (fVar 2) (fVar 5)) fNil)))))
abbrev l_bounds_1 : M R := fLc (fRng2 (pCons (fOp (lift2 subO) (fVar 4) (fC (.int 1))) (pCons (fVar 5) fNil))) (bName 6) fYes (e_bounds_1) [6]
def p_bounds : DSt → Flow := fseq (fIfS (fB (fOp (lift2 eqO) (fVar 4) (fC (.int 0)))) (fRet (fLst (fCons (fUser F_paid (fCons (fVar 0) (fCons (fVar 1) (fCons (fLst (fCons (fOp (lift2 ixO) (fVar 2) (fVar 5)) fNil)) fNil)))) fNil))) fnext) (fRet (fLc (fRng2 (pCons (fOp (lift2 subO) (fVar 4) (fC (.int 1))) (pCons (fVar 5) fNil))) (bName 6) fYes (e_bounds_1) [6]))
def F_bounds : List R → Pw → FRes := runF 7 6 p_bounds
def e_filled_1 : M R := fC .none
abbrev l_filled_1 : M R := fLc (fRng1 (pCons (fVar 5) fNil)) (bName 7) fYes (e_filled_1) [7]
def b_filled_2 : DSt → Flow := fDrop (fApp 6 (fCall minO (pCons (fUser F_bounds (fCons (fVar 0) (fCons (fVar 1) (fCons (fVar 2) (fCons (fOp (lift2 ixO) (fOp (lift2 addO) (fVar 4) (fLst (fCons (fLst fNil) fNil))) (fOp (lift2 subO) (fVar 5) (fC (.int 1)))) (fCons (fVar 5) (fCons (fVar 7) fNil))))))) fNil)))
abbrev o_filled_2 : List PyData → DSt → Flow := loopF (bName 7) b_filled_2
def b_filled_3 : DSt → Flow := fseq (fSet 6 (fLc (fRng1 (pCons (fVar 5) fNil)) (bName 7) fYes (e_filled_1) [7])) (fseq (fFor (fRng2 (pCons (fVar 5) (pCons (fCall lenO (pCons (fVar 2) fNil)) fNil))) (bName 7) b_filled_2) (fDrop (fApp 4 (fVar 6))))
abbrev o_filled_3 : List PyData → DSt → Flow := loopF (bName 5) b_filled_3
def p_filled : DSt → Flow := fseq (fSet 4 (fLst fNil)) (fseq (fFor (fRng1 (pCons (fVar 3) fNil)) (bName 5) b_filled_3) (fRet (fVar 4)))
def F_filled : List R → Pw → FRes := runF 8 4 p_filled
def p_must_be_asked_v2 : DSt → Flow := fseq (fDrop (fUser F_must_be_weighed (fCons (fVar 0) (fCons (fVar 1) fNil)))) (fseq (fDrop (fUser F_must_fall_v2 (fCons (fVar 0) (fCons (fVar 2) fNil)))) (fIfS (fOr (fB (fOp (lift2 ltO) (fVar 3) (fC (.int 1)))) (fB (fOp (lift2 gtO) (fVar 3) (fCall lenO (pCons (fVar 2) fNil))))) (fRaise "NoNumber") fnext))
def F_must_be_asked_v2 : List R → Pw → FRes := runF 4 4 p_must_be_asked_v2
def t_last_of_1 : M Bool := fB (fIsN true (fVar 2))
def e_last_of_2 : M R := fVar 2
abbrev l_last_of_2 : M R := fLc (fLstI (fVar 0)) (bName 2) (t_last_of_1) (e_last_of_2) [2]
def p_last_of : DSt → Flow := fseq (fSet 1 (fLc (fLstI (fVar 0)) (bName 2) (t_last_of_1) (e_last_of_2) [2])) (fRet (fIndex (fVar 0) (fCall minO (pCons (fVar 1) fNil))))
def F_last_of : List R → Pw → FRes := runF 3 1 p_last_of
def b_few_v2_1 : DSt → Flow := fseq (fSet 9 (fUser F_bounds (fCons (fVar 0) (fCons (fVar 1) (fCons (fVar 2) (fCons (fOp (lift2 ixO) (fVar 4) (fOp (lift2 subO) (fVar 8) (fC (.int 1)))) (fCons (fVar 8) (fCons (fVar 5) fNil)))))))) (fseq (fSet 5 (fOp (lift2 addO) (fOp (lift2 subO) (fVar 8) (fC (.int 1))) (fIndex (fVar 9) (fOp (lift2 ixO) (fOp (lift2 ixO) (fVar 4) (fVar 8)) (fVar 5))))) (fSet 7 (fOp (lift2 addO) (fLst (fCons (fOp (lift2 ixO) (fVar 2) (fVar 5)) fNil)) (fVar 7))))
abbrev o_few_v2_1 : List PyData → DSt → Flow := loopF (bName 8) b_few_v2_1
def p_few_v2 : DSt → Flow := fseq (fDrop (fUser F_must_be_asked_v2 (fCons (fVar 0) (fCons (fVar 1) (fCons (fVar 2) (fCons (fVar 3) fNil)))))) (fseq (fSet 4 (fUser F_filled (fCons (fVar 0) (fCons (fVar 1) (fCons (fVar 2) (fCons (fVar 3) fNil)))))) (fseq (fSet 5 (fUser F_last_of (fCons (fOp (lift2 ixO) (fVar 4) (fUn (lift1 negO) (fC (.int 1)))) fNil))) (fseq (fSet 6 (fOp (lift2 ixO) (fOp (lift2 ixO) (fVar 4) (fUn (lift1 negO) (fC (.int 1)))) (fVar 5))) (fseq (fSet 7 (fLst (fCons (fOp (lift2 ixO) (fVar 2) (fVar 5)) fNil))) (fseq (fFor (fRng3 (pCons (fOp (lift2 subO) (fVar 3) (fC (.int 1))) (pCons (fC (.int 0)) (pCons (fUn (lift1 negO) (fC (.int 1))) fNil)))) (bName 8) b_few_v2_1) (fRet (fTup (fCons (fVar 6) (fCons (fVar 7) (fCons (fVar 4) fNil))))))))))
def F_few_v2 : List R → Pw → FRes := runF 10 4 p_few_v2
def e_are_along_1 : M R := fOp (lift2 inO) (fVar 4) (fVar 0)
abbrev l_are_along_1 : M R := fLc (fLstI (fVar 2)) (bName 4) fYes (e_are_along_1) [4]
def e_are_along_2 : M R := fIndex (fVar 0) (fVar 4)
abbrev l_are_along_2 : M R := fLc (fLstI (fVar 2)) (bName 4) fYes (e_are_along_2) [4]
def p_are_along : DSt → Flow := fseq (fIfS (fOr (fNot (fB (fUser F_are_unlike_names (fCons (fVar 2) fNil)))) (fOr (fB (fOp (lift2 neO) (fCall lenO (pCons (fVar 2) fNil)) (fVar 1))) (fNot (fB (fCall allO (pCons (fLc (fLstI (fVar 2)) (bName 4) fYes (e_are_along_1) [4]) fNil)))))) (fRet (fC (.bool false))) fnext) (fseq (fSet 3 (fLc (fLstI (fVar 2)) (bName 4) fYes (e_are_along_2) [4])) (fRet (fOp (lift2 eqO) (fVar 3) (fCall sortedO (pCons (fVar 3) fNil)))))
def F_are_along : List R → Pw → FRes := runF 5 3 p_are_along
def e_is_row_1 : M R := fIsN false (fVar 3)
abbrev l_is_row_1 : M R := fLc (fLstI (fSlice (fVar 2) fNoPart (fPart (fVar 0)))) (bName 3) fYes (e_is_row_1) [3]
def e_is_row_2 : M R := fUser F_is_number (fCons (fVar 3) fNil)
abbrev l_is_row_2 : M R := fLc (fLstI (fSlice (fVar 2) (fPart (fVar 0)) fNoPart)) (bName 3) fYes (e_is_row_2) [3]
def p_is_row : DSt → Flow := fseq (fIfS (fOr (fNot (fB (fIsi "list" (fVar 2)))) (fB (fOp (lift2 neO) (fCall lenO (pCons (fVar 2) fNil)) (fVar 1)))) (fRet (fC (.bool false))) fnext) (fRet (fAndV (fCall allO (pCons (fLc (fLstI (fSlice (fVar 2) fNoPart (fPart (fVar 0)))) (bName 3) fYes (e_is_row_1) [3]) fNil)) (fCall allO (pCons (fLc (fLstI (fSlice (fVar 2) (fPart (fVar 0)) fNoPart)) (bName 3) fYes (e_is_row_2) [3]) fNil))))
def F_is_row : List R → Pw → FRes := runF 4 3 p_is_row
def e_is_table_1 : M R := fUser F_is_row (fCons (fVar 3) (fCons (fVar 1) (fCons (fVar 4) fNil)))
abbrev l_is_table_1 : M R := fLc (fEnum (fCons (fVar 2) fNil)) (bTup 2 (bCons (bName 3) (bCons (bName 4) bNil))) fYes (e_is_table_1) [3, 4]
def p_is_table : DSt → Flow := fseq (fIfS (fOr (fNot (fB (fIsi "list" (fVar 2)))) (fB (fOp (lift2 neO) (fCall lenO (pCons (fVar 2) fNil)) (fVar 0)))) (fRet (fC (.bool false))) fnext) (fRet (fCall allO (pCons (fLc (fEnum (fCons (fVar 2) fNil)) (bTup 2 (bCons (bName 3) (bCons (bName 4) bNil))) fYes (e_is_table_1) [3, 4]) fNil)))
def F_is_table : List R → Pw → FRes := runF 5 3 p_is_table
def b_table_wrong_1 : DSt → Flow := fIfS (fB (fOp (lift2 gtO) (fOp (lift2 ixO) (fVar 6) (fVar 7)) (fCall minO (pCons (fUser F_bounds (fCons (fVar 0) (fCons (fVar 1) (fCons (fVar 2) (fCons (fOp (lift2 ixO) (fOp (lift2 addO) (fSlice (fVar 4) fNoPart (fPart (fVar 5))) (fLst (fCons (fLst fNil) fNil))) (fOp (lift2 subO) (fVar 5) (fC (.int 1)))) (fCons (fVar 5) (fCons (fVar 7) fNil))))))) fNil)))) (fRet (fTup (fCons (fC (.str "number")) (fCons (fVar 5) (fCons (fVar 7) fNil))))) fnext
abbrev o_table_wrong_1 : List PyData → DSt → Flow := loopF (bName 7) b_table_wrong_1
def b_table_wrong_2 : DSt → Flow := fFor (fRng2 (pCons (fVar 5) (pCons (fCall lenO (pCons (fVar 2) fNil)) fNil))) (bName 7) b_table_wrong_1
abbrev o_table_wrong_2 : List PyData → DSt → Flow := loopF (bTup 2 (bCons (bName 5) (bCons (bName 6) bNil))) b_table_wrong_2
def b_table_wrong_3 : DSt → Flow := fIfS (fAnd (fB (fIsN true (fVar 8))) (fB (fOp (lift2 ltO) (fVar 8) (fVar 3)))) (fRet (fTup (fCons (fC (.str "least")) (fCons (fVar 7) fNil)))) fnext
abbrev o_table_wrong_3 : List PyData → DSt → Flow := loopF (bTup 2 (bCons (bName 7) (bCons (bName 8) bNil))) b_table_wrong_3
def p_table_wrong : DSt → Flow := fseq (fFor (fEnum (fCons (fVar 4) fNil)) (bTup 2 (bCons (bName 5) (bCons (bName 6) bNil))) b_table_wrong_2) (fseq (fFor (fEnum (fCons (fOp (lift2 ixO) (fVar 4) (fUn (lift1 negO) (fC (.int 1)))) fNil)) (bTup 2 (bCons (bName 7) (bCons (bName 8) bNil))) b_table_wrong_3) (fRet (fC .none)))
def F_table_wrong : List R → Pw → FRes := runF 9 5 p_table_wrong
def p_few_judged_v2 : DSt → Flow := fseq (fDrop (fUser F_must_be_asked_v2 (fCons (fVar 0) (fCons (fVar 1) (fCons (fVar 2) (fCons (fVar 3) fNil)))))) (fseq (fIfS (fOr (fNot (fB (fIsi "tuple" (fVar 4)))) (fOr (fB (fOp (lift2 neO) (fCall lenO (pCons (fVar 4) fNil)) (fC (.int 3)))) (fNot (fB (fUser F_is_number (fCons (fOp (lift2 ixO) (fVar 4) (fC (.int 0))) fNil)))))) (fRet (fTup (fCons (fC (.str "few")) fNil))) fnext) (fseq (fAsgB (fVar 4) (bSeq 3 (bCons (bName 5) (bCons (bName 6) (bCons (bName 7) bNil))))) (fseq (fIfS (fNot (fB (fUser F_are_along (fCons (fVar 2) (fCons (fVar 3) (fCons (fVar 6) fNil)))))) (fRet (fTup (fCons (fC (.str "names")) fNil))) fnext) (fseq (fIfS (fB (fOp (lift2 neO) (fUser F_paid (fCons (fVar 0) (fCons (fVar 1) (fCons (fVar 6) fNil)))) (fVar 5))) (fRet (fTup (fCons (fC (.str "price")) fNil))) fnext) (fseq (fIfS (fNot (fB (fUser F_is_table (fCons (fVar 3) (fCons (fCall lenO (pCons (fVar 2) fNil)) (fCons (fVar 7) fNil)))))) (fRet (fTup (fCons (fC (.str "table")) fNil))) fnext) (fRet (fUser F_table_wrong (fCons (fVar 0) (fCons (fVar 1) (fCons (fVar 2) (fCons (fVar 5) (fCons (fVar 7) fNil))))))))))))
def F_few_judged_v2 : List R → Pw → FRes := runF 8 5 p_few_judged_v2
def t_law_names_of_v7_1 : M Bool := fB (fVar 4)
def e_law_names_of_v7_2 : M R := fVar 3
abbrev l_law_names_of_v7_2 : M R := fLc (fZip (fCons (fVar 2) (fCons (fVar 1) fNil))) (bTup 2 (bCons (bName 3) (bCons (bName 4) bNil))) (t_law_names_of_v7_1) (e_law_names_of_v7_2) [3, 4]
def p_law_names_of_v7 : DSt → Flow := fseq (fSet 1 (fLst (fCons (fIsYA ["NoFall", "NoFit", "NoFolk", "NoLine", "NoNames", "NoNumber", "NoWeights"] "NoBack" (fVar 0)) (fCons (fIsXA ["NoFall", "NoFit", "NoFolk", "NoLine", "NoNames", "NoNumber", "NoWeights"] "NoFall" (fVar 0)) (fCons (fIsXA ["NoFall", "NoFit", "NoFolk", "NoLine", "NoNames", "NoNumber", "NoWeights"] "NoFit" (fVar 0)) fNil))))) (fseq (fSet 1 (fOp (lift2 addO) (fVar 1) (fLst (fCons (fIsYA ["NoFall", "NoFit", "NoFolk", "NoLine", "NoNames", "NoNumber", "NoWeights"] "NoFixed" (fVar 0)) (fCons (fIsXA ["NoFall", "NoFit", "NoFolk", "NoLine", "NoNames", "NoNumber", "NoWeights"] "NoFolk" (fVar 0)) (fCons (fIsYA ["NoFall", "NoFit", "NoFolk", "NoLine", "NoNames", "NoNumber", "NoWeights"] "NoHand" (fVar 0)) fNil)))))) (fseq (fSet 1 (fOp (lift2 addO) (fVar 1) (fLst (fCons (fIsXA ["NoFall", "NoFit", "NoFolk", "NoLine", "NoNames", "NoNumber", "NoWeights"] "NoLine" (fVar 0)) (fCons (fIsXA ["NoFall", "NoFit", "NoFolk", "NoLine", "NoNames", "NoNumber", "NoWeights"] "NoNames" (fVar 0)) (fCons (fIsXA ["NoFall", "NoFit", "NoFolk", "NoLine", "NoNames", "NoNumber", "NoWeights"] "NoNumber" (fVar 0)) fNil)))))) (fseq (fSet 1 (fOp (lift2 addO) (fVar 1) (fLst (fCons (fIsYA ["NoFall", "NoFit", "NoFolk", "NoLine", "NoNames", "NoNumber", "NoWeights"] "NoPaper" (fVar 0)) (fCons (fIsYA ["NoFall", "NoFit", "NoFolk", "NoLine", "NoNames", "NoNumber", "NoWeights"] "NoRanking" (fVar 0)) (fCons (fIsYA ["NoFall", "NoFit", "NoFolk", "NoLine", "NoNames", "NoNumber", "NoWeights"] "NoRow" (fVar 0)) fNil)))))) (fseq (fSet 1 (fOp (lift2 addO) (fVar 1) (fLst (fCons (fIsYA ["NoFall", "NoFit", "NoFolk", "NoLine", "NoNames", "NoNumber", "NoWeights"] "NoRule" (fVar 0)) (fCons (fIsYA ["NoFall", "NoFit", "NoFolk", "NoLine", "NoNames", "NoNumber", "NoWeights"] "NoText" (fVar 0)) (fCons (fIsYA ["NoFall", "NoFit", "NoFolk", "NoLine", "NoNames", "NoNumber", "NoWeights"] "NoTitle" (fVar 0)) fNil)))))) (fseq (fSet 1 (fOp (lift2 addO) (fVar 1) (fLst (fCons (fIsYA ["NoFall", "NoFit", "NoFolk", "NoLine", "NoNames", "NoNumber", "NoWeights"] "NoTops" (fVar 0)) (fCons (fIsYA ["NoFall", "NoFit", "NoFolk", "NoLine", "NoNames", "NoNumber", "NoWeights"] "NoTree" (fVar 0)) (fCons (fIsXA ["NoFall", "NoFit", "NoFolk", "NoLine", "NoNames", "NoNumber", "NoWeights"] "NoWeights" (fVar 0)) fNil)))))) (fseq (fSet 1 (fOp (lift2 addO) (fVar 1) (fLst (fCons (fIsYA ["NoFall", "NoFit", "NoFolk", "NoLine", "NoNames", "NoNumber", "NoWeights"] "TooGreat" (fVar 0)) fNil)))) (fseq (fSet 2 (fLst (fCons (fC (.str "NoBack")) (fCons (fC (.str "NoFall")) (fCons (fC (.str "NoFit")) (fCons (fC (.str "NoFixed")) (fCons (fC (.str "NoFolk")) (fCons (fC (.str "NoHand")) (fCons (fC (.str "NoLine")) (fCons (fC (.str "NoNames")) fNil)))))))))) (fseq (fSet 2 (fOp (lift2 addO) (fVar 2) (fLst (fCons (fC (.str "NoNumber")) (fCons (fC (.str "NoPaper")) (fCons (fC (.str "NoRanking")) (fCons (fC (.str "NoRow")) (fCons (fC (.str "NoRule")) (fCons (fC (.str "NoText")) (fCons (fC (.str "NoTitle")) (fCons (fC (.str "NoTops")) fNil))))))))))) (fseq (fSet 2 (fOp (lift2 addO) (fVar 2) (fLst (fCons (fC (.str "NoTree")) (fCons (fC (.str "NoWeights")) (fCons (fC (.str "TooGreat")) fNil)))))) (fRet (fLc (fZip (fCons (fVar 2) (fCons (fVar 1) fNil))) (bTup 2 (bCons (bName 3) (bCons (bName 4) bNil))) (t_law_names_of_v7_1) (e_law_names_of_v7_2) [3, 4])))))))))))
def F_law_names_of_v7 : List R → Pw → FRes := runF 5 1 p_law_names_of_v7
def p_law_asked_v11 : DSt → Flow := fseq (fIfS (fB (fOp (lift2 eqO) (fVar 0) (fC (.int 0)))) (fDrop (fUser F_margin (fCons (fVar 1) (fCons (fVar 2) (fCons (fC .none) (fCons (fC .none) fNil)))))) fnext) (fseq (fIfS (fB (fOp (lift2 eqO) (fVar 0) (fC (.int 1)))) (fDrop (fUser F_order_judged (fCons (fVar 1) (fCons (fVar 2) (fCons (fC .none) fNil))))) fnext) (fseq (fIfS (fB (fOp (lift2 eqO) (fVar 0) (fC (.int 2)))) (fDrop (fUser F_order_of_v3 (fCons (fVar 1) (fCons (fVar 2) fNil)))) fnext) (fseq (fIfS (fB (fOp (lift2 eqO) (fVar 0) (fC (.int 3)))) (fDrop (fUser F_unbeaten (fCons (fVar 1) (fCons (fVar 2) fNil)))) fnext) (fseq (fIfS (fB (fOp (lift2 eqO) (fVar 0) (fC (.int 4)))) (fDrop (fUser F_cost (fCons (fVar 1) (fCons (fVar 2) (fCons (fC .none) fNil))))) fnext) (fseq (fIfS (fB (fOp (lift2 eqO) (fVar 0) (fC (.int 5)))) (fDrop (fUser F_middle_v2 (fCons (fVar 1) (fCons (fVar 2) (fCons (fVar 3) fNil))))) fnext) (fseq (fIfS (fB (fOp (lift2 eqO) (fVar 0) (fC (.int 6)))) (fDrop (fUser F_few_v2 (fCons (fVar 1) (fCons (fVar 2) (fCons (fVar 3) (fCons (fVar 4) fNil)))))) fnext) (fIfS (fB (fOp (lift2 eqO) (fVar 0) (fC (.int 7)))) (fDrop (fUser F_few_judged_v2 (fCons (fVar 1) (fCons (fVar 2) (fCons (fVar 3) (fCons (fVar 4) (fCons (fC .none) fNil))))))) fnext)))))))
def F_law_asked_v11 : List R → Pw → FRes := runF 5 5 p_law_asked_v11
def b_law_refused_v36_1 : DSt → Flow := fDrop (fUser F_law_asked_v11 (fCons (fVar 6) (fCons (fVar 1) (fCons (fVar 2) (fCons (fVar 3) (fCons (fVar 4) fNil))))))
def b_law_refused_v36_2 : DSt → Flow := fseq (fSet 7 (fC .none)) (fseq (fTryA ["NoFall", "NoFit", "NoFolk", "NoLine", "NoNames", "NoNumber", "NoWeights"] 8 7 b_law_refused_v36_1) (fseq (fIfS (fOr (fNot (fB (fIsVA ["NoFall", "NoFit", "NoFolk", "NoLine", "NoNames", "NoNumber", "NoWeights"] (fVar 7)))) (fB (fOp (lift2 neO) (fUser F_law_names_of_v7 (fCons (fVar 7) fNil)) (fLst (fCons (fOp (lift2 ixO) (fVar 5) (fC (.int 0))) fNil))))) (fRet (fC (.bool false))) fnext) (fIfS (fAnd (fB (fOp (lift2 eqO) (fOp (lift2 ixO) (fVar 5) (fC (.int 0))) (fC (.str "NoFall")))) (fOr (fNot (fB (fUser F_law_whole (fCons (fFld "NoFall" (fVar 7)) fNil)))) (fB (fOp (lift2 neO) (fFld "NoFall" (fVar 7)) (fOp (lift2 ixO) (fVar 5) (fC (.int 1))))))) (fRet (fC (.bool false))) fnext)))
abbrev o_law_refused_v36_2 : List PyData → DSt → Flow := loopF (bName 6) b_law_refused_v36_2
def p_law_refused_v36 : DSt → Flow := fseq (fFor (fLstI (fVar 0)) (bName 6) b_law_refused_v36_2) (fRet (fC (.bool true)))
def F_law_refused_v36 : List R → Pw → FRes := runF 9 6 p_law_refused_v36
def b_law_k54_1 : DSt → Flow := fIfS (fNot (fB (fUser F_law_refused_v36 (fCons (fLst (fCons (fC (.int 5)) (fCons (fC (.int 6)) (fCons (fC (.int 7)) fNil)))) (fCons (fVar 4) (fCons (fVar 5) (fCons (fVar 10) (fCons (fC (.int 0)) (fCons (fLst (fCons (fC (.str "NoFit")) fNil)) fNil))))))))) (fRet (fC (.bool false))) fnext
abbrev o_law_k54_1 : List PyData → DSt → Flow := loopF (bName 10) b_law_k54_1
def t_law_k54_2 : M Bool := fNot (fB (fUser F_law_falls (fCons (fVar 2) (fCons (fOp (lift2 ixO) (fVar 4) (fVar 14)) fNil))))
def e_law_k54_3 : M R := fVar 14
abbrev l_law_k54_3 : M R := fLc (fRng1 (pCons (fVar 3) fNil)) (bName 14) (t_law_k54_2) (e_law_k54_3) [14]
def b_law_k54_4 : DSt → Flow := fIfS (fNot (fB (fUser F_law_refused_v36 (fCons (fLst (fCons (fC (.int 6)) (fCons (fC (.int 7)) fNil))) (fCons (fVar 4) (fCons (fVar 5) (fCons (fVar 2) (fCons (fVar 12) (fCons (fLst (fCons (fC (.str "NoNumber")) fNil)) fNil))))))))) (fRet (fC (.bool false))) fnext
abbrev o_law_k54_4 : List PyData → DSt → Flow := loopF (bName 12) b_law_k54_4
def p_law_k54 : DSt → Flow := fseq (fSet 1 (fUser F_law_draws (fCons (fVar 0) (fCons (fC (.int 0)) (fCons (fC (.int 8)) fNil))))) (fseq (fSet 2 (fUser F_law_line_v2 (fCons (fVar 0) (fCons (fC (.int 1)) (fCons (fOp (lift2 addO) (fC (.int 2)) (fOp (lift2 modO) (fOp (lift2 ixO) (fVar 1) (fC (.int 0))) (fC (.int 5)))) fNil))))) (fseq (fSet 3 (fOp (lift2 ixO) (fLst (fCons (fOp (lift2 addO) (fC (.int 1)) (fOp (lift2 modO) (fOp (lift2 ixO) (fVar 1) (fC (.int 1))) (fC (.int 6)))) (fCons (fC (.int 20)) fNil))) (fCall intO (pCons (fOp (lift2 eqO) (fOp (lift2 modO) (fOp (lift2 fdivO) (fOp (lift2 ixO) (fVar 1) (fC (.int 1))) (fC (.int 64))) (fC (.int 8))) (fC (.int 3))) fNil)))) (fseq (fSet 4 (fUser F_law_folk_v4 (fCons (fVar 0) (fCons (fC (.int 3)) (fCons (fVar 2) (fCons (fVar 3) (fCons (fOp (lift2 modO) (fOp (lift2 ixO) (fVar 1) (fC (.int 2))) (fOp (lift2 addO) (fVar 3) (fC (.int 2)))) fNil))))))) (fseq (fSet 5 (fUser F_law_weights (fCons (fVar 0) (fCons (fC (.int 2)) (fCons (fVar 3) fNil))))) (fseq (fSet 6 (fUser (F_law_copied 6) (fCons (fLst (fCons (fVar 4) (fCons (fVar 5) (fCons (fVar 2) fNil)))) fNil))) (fseq (fSet 7 (fExcs "NoFall" (fCons (fMkX "NoFall" (fC (.int 2))) (fCons (fMkX "NoFall" (fC (.int 0))) (fCons (fMkX "NoFall" (fOp (lift2 ixO) (fVar 1) (fC (.int 6)))) fNil))))) (fseq (fIfS (fB (fOp (lift2 neO) (fFlds "NoFall" 13 (fVar 7)) (fLst (fCons (fC (.int 2)) (fCons (fC (.int 0)) (fCons (fOp (lift2 ixO) (fVar 1) (fC (.int 6))) fNil)))))) (fRet (fC (.bool false))) fnext) (fseq (fSet 8 (fUser F_law_no_folk (fCons (fVar 4) (fCons (fOp (lift2 ixO) (fVar 1) (fC (.int 3))) fNil)))) (fseq (fSet 9 (fUser F_law_no_weights (fCons (fVar 5) (fCons (fOp (lift2 ixO) (fVar 1) (fC (.int 4))) fNil)))) (fseq (fIfS (fNot (fB (fUser F_law_refused_v36 (fCons (fLRng1 (fC (.int 8))) (fCons (fVar 8) (fCons (fVar 9) (fCons (fC .none) (fCons (fC .none) (fCons (fLst (fCons (fC (.str "NoFolk")) fNil)) fNil))))))))) (fRet (fC (.bool false))) fnext) (fseq (fIfS (fNot (fB (fUser F_law_refused_v36 (fCons (fLRng1 (fC (.int 8))) (fCons (fVar 4) (fCons (fVar 9) (fCons (fC .none) (fCons (fC .none) (fCons (fLst (fCons (fC (.str "NoWeights")) fNil)) fNil))))))))) (fRet (fC (.bool false))) fnext) (fseq (fIfS (fNot (fB (fUser F_law_refused_v36 (fCons (fLst (fCons (fC (.int 5)) (fCons (fC (.int 6)) (fCons (fC (.int 7)) fNil)))) (fCons (fVar 4) (fCons (fVar 5) (fCons (fUser F_law_no_line (fCons (fVar 2) (fCons (fOp (lift2 ixO) (fVar 1) (fC (.int 5))) fNil))) (fCons (fUn (lift1 negO) (fC (.int 1))) (fCons (fLst (fCons (fC (.str "NoLine")) fNil)) fNil))))))))) (fRet (fC (.bool false))) fnext) (fseq (fFor (fLstI (fLst (fCons (fSlice (fVar 2) fNoPart (fPart (fUn (lift1 negO) (fC (.int 1))))) (fCons (fOp (lift2 addO) (fSlice (fVar 2) fNoPart (fPart (fUn (lift1 negO) (fC (.int 1))))) (fLst (fCons (fOp (lift2 addO) (fCall maxO (pCons (fVar 2) fNil)) (fC (.int 1))) fNil))) (fCons (fOp (lift2 addO) (fVar 2) (fLst (fCons (fOp (lift2 addO) (fCall maxO (pCons (fVar 2) fNil)) (fC (.int 1))) fNil))) fNil))))) (bName 10) b_law_k54_1) (fseq (fSet 11 (fLc (fRng1 (pCons (fVar 3) fNil)) (bName 14) (t_law_k54_2) (e_law_k54_3) [14])) (fseq (fIfS (fB (fOp (lift2 neO) (fVar 11) (fLst fNil))) (fIfS (fNot (fB (fUser F_law_refused_v36 (fCons (fLst (fCons (fC (.int 5)) (fCons (fC (.int 6)) (fCons (fC (.int 7)) fNil)))) (fCons (fVar 4) (fCons (fVar 5) (fCons (fVar 2) (fCons (fC (.int 0)) (fCons (fLst (fCons (fC (.str "NoFall")) (fCons (fOp (lift2 ixO) (fVar 11) (fC (.int 0))) fNil))) fNil))))))))) (fRet (fC (.bool false))) fnext) (fFor (fLstI (fLst (fCons (fC (.int 0)) (fCons (fUn (lift1 negO) (fC (.int 1))) (fCons (fOp (lift2 addO) (fCall lenO (pCons (fVar 2) fNil)) (fC (.int 1))) (fCons (fOp (lift2 addO) (fOp (lift2 addO) (fCall lenO (pCons (fVar 2) fNil)) (fC (.int 1))) (fOp (lift2 ixO) (fVar 1) (fC (.int 6)))) (fCons (fOp (lift2 subO) (fUn (lift1 negO) (fC (.int 1))) (fOp (lift2 mulO) (fOp (lift2 ixO) (fVar 1) (fC (.int 7))) (fOp (lift2 powO) (fC (.int 10)) (fC (.int 20))))) fNil))))))) (bName 12) b_law_k54_4)) (fRet (fOp (lift2 eqO) (fVar 6) (fLst (fCons (fVar 4) (fCons (fVar 5) (fCons (fVar 2) fNil)))))))))))))))))))))
def F_law_k54 : List R → Pw → FRes := runF 15 1 p_law_k54
def NS54 : List String := ["NoFall", "NoFit", "NoFolk", "NoLine", "NoNames", "NoNumber", "NoWeights"]
theorem NS54_hits {n : String} (h : n ∈ NS54) : ∃ (L : List (Str × Bool)) (Ws Hs : List PyData), zipD Ws Hs = L.map tgB ∧ L.length = 19 ∧ (L.filter (·.2)).map (fun p => PyData.str p.1) = [.str (Str.ofString n)] ∧
    [PyData.str "NoBack", PyData.str "NoFall", PyData.str "NoFit", PyData.str "NoFixed", PyData.str "NoFolk", PyData.str "NoHand", PyData.str "NoLine", PyData.str "NoNames", PyData.str "NoNumber", PyData.str "NoPaper", PyData.str "NoRanking", PyData.str "NoRow", PyData.str "NoRule", PyData.str "NoText", PyData.str "NoTitle", PyData.str "NoTops", PyData.str "NoTree", PyData.str "NoWeights", PyData.str "TooGreat"] = Ws ∧
    [PyData.bool false, PyData.bool (n == "NoFall"), PyData.bool (n == "NoFit"), PyData.bool false, PyData.bool (n == "NoFolk"), PyData.bool false, PyData.bool (n == "NoLine"), PyData.bool (n == "NoNames"), PyData.bool (n == "NoNumber"), PyData.bool false, PyData.bool false, PyData.bool false, PyData.bool false, PyData.bool false, PyData.bool false, PyData.bool false, PyData.bool false, PyData.bool (n == "NoWeights"), PyData.bool false] = Hs := by
  refine ⟨[("NoBack", false), ("NoFall", n == "NoFall"), ("NoFit", n == "NoFit"), ("NoFixed", false), ("NoFolk", n == "NoFolk"), ("NoHand", false), ("NoLine", n == "NoLine"), ("NoNames", n == "NoNames"), ("NoNumber", n == "NoNumber"), ("NoPaper", false), ("NoRanking", false), ("NoRow", false), ("NoRule", false), ("NoText", false), ("NoTitle", false), ("NoTops", false), ("NoTree", false), ("NoWeights", n == "NoWeights"), ("TooGreat", false)], _, _, rfl, rfl, ?_, rfl, rfl⟩
  unfold NS54 at h
  simp only [List.mem_cons, List.not_mem_nil, or_false] at h
  rcases h with rfl | rfl | rfl | rfl | rfl | rfl | rfl <;> rfl
theorem NS54_of {n : String} {a : Option PyData} {w : Pw} (h : n ∈ NS54) : F_law_names_of_v7 [.ob (.exc ⟨n, a⟩)] w = .ok (.new [.str (Str.ofString n)]) w := by
  obtain ⟨L, Ws, Hs, hL, lL, fL, hWs, hHs⟩ := NS54_hits h
  have e : l_law_names_of_v7_2 ⟨[.ob (.exc ⟨n, a⟩), .own Hs, .own Ws, .no, .no], w⟩ = .ok (.new ((L.filter (·.2)).map fun p => .str p.1)) ⟨[.ob (.exc ⟨n, a⟩), .val (.list Hs), .val (.list Ws), .no, .no], w⟩ := by
    refine lc_gen (fun p : Str × Bool => ⟨[.ob (.exc ⟨n, a⟩), .val (.list Hs), .val (.list Ws), .val (.str p.1), .val (.bool p.2)], w⟩) _ _ (f := tgB) (l := L) (by simp -implicitDefEqProofs [hL]) (by omega) rfl (fun a _ => by rfl) (fun a _ => by rfl) (fun p hp => ?_) (fun p hp _ => ?_)
    · unfold t_law_names_of_v7_1
      simp -implicitDefEqProofs
    · unfold e_law_names_of_v7_2
      simp -implicitDefEqProofs
  rw [fL] at e
  have s3 : leS 3 := size_le (by omega)
  have s6 : leS 6 := size_le (by omega)
  have s9 : leS 9 := size_le (by omega)
  have s12 : leS 12 := size_le (by omega)
  have s15 : leS 15 := size_le (by omega)
  have s18 : leS 18 := size_le (by omega)
  have s19 : leS 19 := size_le (by omega)
  have s1 : leS 1 := size_le (by omega)
  have s8 : leS 8 := size_le (by omega)
  have s16 : leS 16 := size_le (by omega)
  unfold NS54 at h
  unfold F_law_names_of_v7 p_law_names_of_v7
  simp only [x_runF]
  simp -implicitDefEqProofs [h, s1, s3, s6, s9, s12, s15, s18, s19, s8, s16, hWs, hHs, e]
/-! ### a loop that ends with an error -/
theorem loopErr {α : Type} {b : Bd} {p : DSt → Flow} {f : α → PyData} {y : Exn} (Post : DSt → Prop) : ∀ (k : Nat) {l : List α} {s : DSt} (J : Nat → DSt → Prop), k < l.length → J 0 s → (∀ (i : Nat) (a : α) (s : DSt), i < k → l[i]? = some a → J i s → Nx (bod b p (f a) s) (J (i + 1))) → (∀ (a : α) (s : DSt), l[k]? = some a → J k s → ∃ s', bod b p (f a) s = .err y s' ∧ Post s') → ∃ s', loopF b p (l.map f) s = .err y s' ∧ Post s'
  | _, [], _, _, h, _, _, _ => by simp at h
  | 0, a :: l, s, J, _, h0, _, he => by
    obtain ⟨s', e, hP⟩ := he a s rfl h0
    unfold bod at e
    refine ⟨s', ?_, hP⟩
    rw [List.map_cons]
    unfold loopF
    split at e
    · rename_i s1 e1
      rw [e1]
      dsimp only
      rw [e]
    · cases e
  | k + 1, a :: l, s, J, hk, h0, hs, he => by
    obtain ⟨s1, e1, h1⟩ := hs 0 a s (by omega) rfl h0
    rw [List.map_cons, loop_cons e1]
    exact loopErr Post k (fun i s => J (i + 1) s) (by simpa using hk) h1 (fun i a s hi ha h => hs (i + 1) a s (by omega) (by simpa using ha) h) fun a s ha h => he a s (by simpa using ha) h
/-! ### what the functions refuse -/
theorem weighed_nofolk {n : Nat} {d o : PyData} {w : Pw} (hb : bdd n d) (h : folkB d = false) : F_must_be_weighed [.val d, .val o] w = .err ⟨"NoFolk", none⟩ w := by
  unfold F_must_be_weighed p_must_be_weighed
  simp only [x_runF]
  simp -implicitDefEqProofs [must_folk_no hb h]
theorem fall_noline {n : Nat} {d o : PyData} {w : Pw} (hb : bdd n d) (h : rankB d = false) : F_must_fall_v2 [.val o, .val d] w = .err ⟨"NoLine", none⟩ w := by
  unfold F_must_fall_v2 p_must_fall_v2
  simp only [x_runF]
  simp -implicitDefEqProofs [must_line_no (bdd_len hb) h]
theorem fall_nofit {f : List (List Int)} {M a : List Int} {w : Pw} (hM : Rank M) (ha : f[0]? = some a) (h : ¬ M.Perm a) : F_must_fall_v2 [.val (.list ((f).map llD)), .val (.list ((M).map .int))] w = .err ⟨"NoFit", none⟩ w := by
  have ha' : (f.map llD)[0]? = some (.list (a.map .int)) := by rw [List.getElem?_map, ha]; rfl
  have hs : ¬ sortI M = sortI a := fun z => h (sortI_inj z)
  unfold F_must_fall_v2 p_must_fall_v2
  simp only [x_runF]
  simp -implicitDefEqProofs [must_line_ok hM, ha', hs]
theorem enum_folk {f : List (List Int)} : enumD (f.map llD) = f.zipIdx.map fun p : List Int × Nat => PyData.tuple [.int (p.2 : Int), llD p.1] := by
  unfold enumD
  rw [List.zipIdx_map, List.map_map]
  rfl
theorem fall_ok54 {f : List (List Int)} {L a : List Int} {w : Pw} (hL : Rank L) (ha : f[0]? = some a) (hp : ∀ r ∈ f, r.Perm L) (h : ∀ r ∈ f, fallB L r = true) : F_must_fall_v2 [.val (.list ((f).map llD)), .val (.list ((L).map .int))] w = .ok (.val .none) w := by
  have ha' : (f.map llD)[0]? = some (.list (a.map .int)) := by rw [List.getElem?_map, ha]; rfl
  have hs : sortI L = sortI a := (sortI_perm_eq (hp a (List.mem_of_getElem? ha))).symm
  obtain ⟨s', e, v2, v3, rfl⟩ := loopN (b := bTup 2 (bCons (bName 2) (bCons (bName 3) bNil))) (p := b_must_fall_v2_1) (f := fun p : List Int × Nat => PyData.tuple [.int (p.2 : Int), llD p.1]) (l := f.zipIdx) (s := ⟨[.val (.list ((f).map llD)), .val (.list ((L).map .int)), .no, .no], w⟩)
    (fun i s => ∃ v2 v3, s = ⟨[.val (.list ((f).map llD)), .val (.list ((L).map .int)), v2, v3], w⟩) ⟨_, _, rfl⟩ (by
      rintro i p s hi hm ⟨v2, v3, rfl⟩
      have m := List.fst_mem_of_mem_zipIdx hm
      unfold b_must_fall_v2_1
      simp -implicitDefEqProofs [llD, does_fall_ok hL (hp _ m), h _ m])
  unfold F_must_fall_v2 p_must_fall_v2
  simp only [x_runF]
  simp -implicitDefEqProofs [must_line_ok hL, ha', hs, enum_folk, e]
theorem fall_nofall {f : List (List Int)} {L a : List Int} {k : Nat} {w : Pw} (hL : Rank L) (ha : f[0]? = some a) (hp : ∀ r ∈ f, r.Perm L) (hk : k < f.length) (h1 : ∀ i r, i < k → f[i]? = some r → fallB L r = true) (h2 : ∀ r, f[k]? = some r → fallB L r = false) : F_must_fall_v2 [.val (.list ((f).map llD)), .val (.list ((L).map .int))] w = .err ⟨"NoFall", some (.int (k : Int))⟩ w := by
  have ha' : (f.map llD)[0]? = some (.list (a.map .int)) := by rw [List.getElem?_map, ha]; rfl
  have hs : sortI L = sortI a := (sortI_perm_eq (hp a (List.mem_of_getElem? ha))).symm
  have zi : ∀ {i : Nat} {p : List Int × Nat}, f.zipIdx[i]? = some p → f[i]? = some p.1 ∧ p.2 = i := by
    intro i p h
    rw [List.getElem?_zipIdx] at h
    cases q : f[i]? with
    | none => rw [q] at h; simp at h
    | some r => rw [q] at h; simp at h; subst h; exact ⟨rfl, rfl⟩
  obtain ⟨s', e, ew⟩ := loopErr (fun s => s.w = w) (b := bTup 2 (bCons (bName 2) (bCons (bName 3) bNil))) (p := b_must_fall_v2_1) (f := fun p : List Int × Nat => PyData.tuple [.int (p.2 : Int), llD p.1]) (y := ⟨"NoFall", some (.int (k : Int))⟩) k (l := f.zipIdx) (s := ⟨[.val (.list ((f).map llD)), .val (.list ((L).map .int)), .no, .no], w⟩)
    (fun i s => ∃ v2 v3, s = ⟨[.val (.list ((f).map llD)), .val (.list ((L).map .int)), v2, v3], w⟩) (by simpa using hk) ⟨_, _, rfl⟩ (by
      rintro i p s hik hi ⟨v2, v3, rfl⟩
      obtain ⟨e1, e2⟩ := zi hi
      have m := List.mem_of_getElem? e1
      unfold b_must_fall_v2_1
      simp -implicitDefEqProofs [llD, does_fall_ok hL (hp _ m), h1 i _ hik e1]) (by
      rintro p s hi ⟨v2, v3, rfl⟩
      obtain ⟨e1, e2⟩ := zi hi
      have m := List.mem_of_getElem? e1
      unfold b_must_fall_v2_1
      simp -implicitDefEqProofs [llD, does_fall_ok hL (hp _ m), h2 _ e1, e2])
  unfold F_must_fall_v2 p_must_fall_v2
  simp only [x_runF]
  simp -implicitDefEqProofs [must_line_ok hL, ha', hs, enum_folk, e, ew]
theorem asked_weighed {df dw dl dm : PyData} {x : Exn} {w : Pw} (h : F_must_be_weighed [.val df, .val dw] w = .err x w) : ∀ k ∈ ([0, 1, 2, 3, 4, 5, 6, 7] : List Int), F_law_asked_v11 [.val (.int (k)), .val df, .val dw, .val dl, .val dm] w = .err x w := by
  have e0 : F_margin [.val df, .val dw, .val .none, .val .none] w = .err x w := by
    unfold F_margin p_margin
    simp only [x_runF]
    simp -implicitDefEqProofs [h]
  have e1 : F_order_judged [.val df, .val dw, .val .none] w = .err x w := by
    unfold F_order_judged p_order_judged
    simp only [x_runF]
    simp -implicitDefEqProofs [h]
  have e2 : F_order_of_v3 [.val df, .val dw] w = .err x w := by
    unfold F_order_of_v3 p_order_of_v3
    simp only [x_runF]
    simp -implicitDefEqProofs [h]
  have e3 : F_unbeaten [.val df, .val dw] w = .err x w := by
    unfold F_unbeaten p_unbeaten
    simp only [x_runF]
    simp -implicitDefEqProofs [h]
  have e4 : F_cost [.val df, .val dw, .val .none] w = .err x w := by
    unfold F_cost p_cost
    simp only [x_runF]
    simp -implicitDefEqProofs [h]
  have e5 : F_middle_v2 [.val df, .val dw, .val dl] w = .err x w := by
    unfold F_middle_v2 p_middle_v2
    simp only [x_runF]
    simp -implicitDefEqProofs [h]
  have ea : F_must_be_asked_v2 [.val df, .val dw, .val dl, .val dm] w = .err x w := by
    unfold F_must_be_asked_v2 p_must_be_asked_v2
    simp only [x_runF]
    simp -implicitDefEqProofs [h]
  have e6 : F_few_v2 [.val df, .val dw, .val dl, .val dm] w = .err x w := by
    unfold F_few_v2 p_few_v2
    simp only [x_runF]
    simp -implicitDefEqProofs [ea]
  have e7 : F_few_judged_v2 [.val df, .val dw, .val dl, .val dm, .val .none] w = .err x w := by
    unfold F_few_judged_v2 p_few_judged_v2
    simp only [x_runF]
    simp -implicitDefEqProofs [ea]
  intro k hk
  simp only [List.mem_cons, List.not_mem_nil, or_false] at hk
  unfold F_law_asked_v11 p_law_asked_v11
  simp only [x_runF]
  rcases hk with rfl | rfl | rfl | rfl | rfl | rfl | rfl | rfl
  · simp -implicitDefEqProofs [e0]
  · simp -implicitDefEqProofs [e1]
  · simp -implicitDefEqProofs [e2]
  · simp -implicitDefEqProofs [e3]
  · simp -implicitDefEqProofs [e4]
  · simp -implicitDefEqProofs [e5]
  · simp -implicitDefEqProofs [e6]
  · simp -implicitDefEqProofs [e7]
theorem asked_fall {df dw dl dm : PyData} {x : Exn} {w : Pw} (h0 : F_must_be_weighed [.val df, .val dw] w = .ok (.val .none) w) (h : F_must_fall_v2 [.val df, .val dl] w = .err x w) : ∀ k ∈ ([5, 6, 7] : List Int), F_law_asked_v11 [.val (.int (k)), .val df, .val dw, .val dl, .val dm] w = .err x w := by
  have e5 : F_middle_v2 [.val df, .val dw, .val dl] w = .err x w := by
    unfold F_middle_v2 p_middle_v2
    simp only [x_runF]
    simp -implicitDefEqProofs [h0, h]
  have ea : F_must_be_asked_v2 [.val df, .val dw, .val dl, .val dm] w = .err x w := by
    unfold F_must_be_asked_v2 p_must_be_asked_v2
    simp only [x_runF]
    simp -implicitDefEqProofs [h0, h]
  have e6 : F_few_v2 [.val df, .val dw, .val dl, .val dm] w = .err x w := by
    unfold F_few_v2 p_few_v2
    simp only [x_runF]
    simp -implicitDefEqProofs [ea]
  have e7 : F_few_judged_v2 [.val df, .val dw, .val dl, .val dm, .val .none] w = .err x w := by
    unfold F_few_judged_v2 p_few_judged_v2
    simp only [x_runF]
    simp -implicitDefEqProofs [ea]
  intro k hk
  simp only [List.mem_cons, List.not_mem_nil, or_false] at hk
  unfold F_law_asked_v11 p_law_asked_v11
  simp only [x_runF]
  rcases hk with rfl | rfl | rfl
  · simp -implicitDefEqProofs [e5]
  · simp -implicitDefEqProofs [e6]
  · simp -implicitDefEqProofs [e7]
theorem asked_number {df dw : PyData} {L : List Int} {m : Int} {w : Pw} (h0 : F_must_be_weighed [.val df, .val dw] w = .ok (.val .none) w) (h : F_must_fall_v2 [.val df, .val (.list ((L).map .int))] w = .ok (.val .none) w) (hm : m < 1 ∨ (L.length : Int) < m) : ∀ k ∈ ([6, 7] : List Int), F_law_asked_v11 [.val (.int (k)), .val df, .val dw, .val (.list ((L).map .int)), .val (.int (m))] w = .err ⟨"NoNumber", none⟩ w := by
  have ea : F_must_be_asked_v2 [.val df, .val dw, .val (.list ((L).map .int)), .val (.int (m))] w = .err ⟨"NoNumber", none⟩ w := by
    unfold F_must_be_asked_v2 p_must_be_asked_v2
    simp only [x_runF]
    by_cases q : m < 1
    · simp -implicitDefEqProofs [h0, h, q]
    · have q2 : (L.length : Int) < m := hm.resolve_left q
      simp -implicitDefEqProofs [h0, h, q, q2]
  have e6 : F_few_v2 [.val df, .val dw, .val (.list ((L).map .int)), .val (.int (m))] w = .err ⟨"NoNumber", none⟩ w := by
    unfold F_few_v2 p_few_v2
    simp only [x_runF]
    simp -implicitDefEqProofs [ea]
  have e7 : F_few_judged_v2 [.val df, .val dw, .val (.list ((L).map .int)), .val (.int (m)), .val .none] w = .err ⟨"NoNumber", none⟩ w := by
    unfold F_few_judged_v2 p_few_judged_v2
    simp only [x_runF]
    simp -implicitDefEqProofs [ea]
  intro k hk
  simp only [List.mem_cons, List.not_mem_nil, or_false] at hk
  unfold F_law_asked_v11 p_law_asked_v11
  simp only [x_runF]
  rcases hk with rfl | rfl
  · simp -implicitDefEqProofs [e6]
  · simp -implicitDefEqProofs [e7]
/-! ### the law's look at refusals -/
theorem refused54_a {ks : List Int} {df dw dl dm : PyData} {n : String} {w : Pw} (l20 : ks.length ≤ 20) (hn : n ∈ NS54) (nf : ¬ Str.ofString n = Str.ofString "NoFall") (h : ∀ k ∈ ks, F_law_asked_v11 [.val (.int (k)), .val df, .val dw, .val dl, .val dm] w = .err ⟨n, none⟩ w) :
    F_law_refused_v36 [.val (.list ((ks).map .int)), .val df, .val dw, .val dl, .val dm, .val (.list [.str (Str.ofString n)])] w = .ok (.val (.bool true)) w := by
  have eq : neO (.list [.str (Str.ofString n)]) (.list [.str (Str.ofString n)]) = some (.val (.bool false)) := neO_self (n := 2) (by simp) (by omega)
  have hm := NS54_of (a := none) (w := w) hn
  have s1 : leS 1 := size_le (by omega)
  have ar : argOk none := .inl rfl
  obtain ⟨s', e, v6, v7, rfl⟩ := loopN (b := bName 6) (p := b_law_refused_v36_2) (f := .int) (l := ks) (s := ⟨[.val (.list ((ks).map .int)), .val df, .val dw, .val dl, .val dm, .val (.list [.str (Str.ofString n)]), .no, .no, .no], w⟩)
    (fun i s => ∃ v6 v7, s = ⟨[.val (.list ((ks).map .int)), .val df, .val dw, .val dl, .val dm, .val (.list [.str (Str.ofString n)]), v6, v7, .no], w⟩) ⟨_, _, rfl⟩ (by
      rintro i k s hi hk ⟨v6, v7, rfl⟩
      have hb : b_law_refused_v36_1 ⟨[.val (.list ((ks).map .int)), .val df, .val dw, .val dl, .val dm, .val (.list [.str (Str.ofString n)]), .val (.int (k)), .val .none, .no], w⟩ = .err ⟨n, none⟩ ⟨[.val (.list ((ks).map .int)), .val df, .val dw, .val dl, .val dm, .val (.list [.str (Str.ofString n)]), .val (.int (k)), .val .none, .no], w⟩ := by
        unfold b_law_refused_v36_1
        simp -implicitDefEqProofs [h k hk]
      have hn2 := hn
      unfold NS54 at hn2
      unfold b_law_refused_v36_2
      simp -implicitDefEqProofs [hb, y_kTryA_err ar, hn2, hm, s1, eq, nf])
  unfold F_law_refused_v36 p_law_refused_v36
  simp only [x_runF]
  simp -implicitDefEqProofs [e]
theorem refused54_f {ks : List Int} {df dw dl dm : PyData} {v : Int} {w : Pw} (l20 : ks.length ≤ 20) (h : ∀ k ∈ ks, F_law_asked_v11 [.val (.int (k)), .val df, .val dw, .val dl, .val dm] w = .err ⟨"NoFall", some (.int v)⟩ w) :
    F_law_refused_v36 [.val (.list ((ks).map .int)), .val df, .val dw, .val dl, .val dm, .val (.list [.str (Str.ofString "NoFall"), .int v])] w = .ok (.val (.bool true)) w := by
  have eq : neO (.list [.str (Str.ofString "NoFall")]) (.list [.str (Str.ofString "NoFall")]) = some (.val (.bool false)) := neO_self (n := 2) (by simp) (by omega)
  have hn : "NoFall" ∈ NS54 := by unfold NS54; simp
  have hm := NS54_of (a := some (.int v)) (w := w) hn
  have hw := whole_ok (d := .int v) (w := w)
  have s1 : leS 1 := size_le (by omega)
  have ar : argOk (some (.int v)) := .inr ⟨v, rfl⟩
  obtain ⟨s', e, v6, v7, rfl⟩ := loopN (b := bName 6) (p := b_law_refused_v36_2) (f := .int) (l := ks) (s := ⟨[.val (.list ((ks).map .int)), .val df, .val dw, .val dl, .val dm, .val (.list [.str (Str.ofString "NoFall"), .int v]), .no, .no, .no], w⟩)
    (fun i s => ∃ v6 v7, s = ⟨[.val (.list ((ks).map .int)), .val df, .val dw, .val dl, .val dm, .val (.list [.str (Str.ofString "NoFall"), .int v]), v6, v7, .no], w⟩) ⟨_, _, rfl⟩ (by
      rintro i k s hi hk ⟨v6, v7, rfl⟩
      have hb : b_law_refused_v36_1 ⟨[.val (.list ((ks).map .int)), .val df, .val dw, .val dl, .val dm, .val (.list [.str (Str.ofString "NoFall"), .int v]), .val (.int (k)), .val .none, .no], w⟩ = .err ⟨"NoFall", some (.int v)⟩ ⟨[.val (.list ((ks).map .int)), .val df, .val dw, .val dl, .val dm, .val (.list [.str (Str.ofString "NoFall"), .int v]), .val (.int (k)), .val .none, .no], w⟩ := by
        unfold b_law_refused_v36_1
        simp -implicitDefEqProofs [h k hk]
      unfold b_law_refused_v36_2
      simp -implicitDefEqProofs [hb, y_kTryA_err ar, hm, s1, eq, hw, isI])
  unfold F_law_refused_v36 p_law_refused_v36
  simp only [x_runF]
  simp -implicitDefEqProofs [e]

end DL

noncomputable section
namespace DL
open PySem L2

theorem list_range_split {h k : Nat} {a b : List Nat} (e : List.range h = a ++ k :: b) : a.length = k ∧ ∀ i, i < k → i ∈ a := by
  have h1 : (a ++ k :: b)[a.length]? = some k := by rw [List.getElem?_append_right (by omega)]; simp
  rw [← e] at h1
  obtain ⟨h2, h3⟩ := List.getElem?_eq_some_iff.mp h1
  rw [List.getElem_range] at h3
  refine ⟨h3, fun i hi => ?_⟩
  have h4 : (a ++ k :: b)[i]? = a[i]? := List.getElem?_append_left (by omega)
  rw [← e] at h4
  have h5 : (List.range h)[i]? = some i := by
    rw [List.getElem?_eq_getElem (by rw [List.length_range] at h2 ⊢; omega), List.getElem_range]
  rw [h5] at h4
  exact List.mem_of_getElem? h4.symm
theorem law_k54_ok : LawOkS 15 p_law_k54 := by
  intro ns hl
  obtain ⟨ds, e1, l1, dg⟩ := draws_ok (w := none) (j := 0) (m := 8) hl (by omega) (by omega)
  have at' : ∀ i < 8, ∃ d, ds[i]? = some d ∧ 0 ≤ d ∧ d < 1000000000 := fun i hi => ⟨ds[i], List.getElem?_eq_getElem (by omega), dg _ (List.getElem_mem _)⟩
  obtain ⟨d0, D0, b0⟩ := at' 0 (by omega)
  obtain ⟨d1, D1, b1⟩ := at' 1 (by omega)
  obtain ⟨d2, D2, b2⟩ := at' 2 (by omega)
  obtain ⟨d3, D3, b3⟩ := at' 3 (by omega)
  obtain ⟨d4, D4, b4⟩ := at' 4 (by omega)
  obtain ⟨d5, D5, b5⟩ := at' 5 (by omega)
  obtain ⟨d6, D6, b6⟩ := at' 6 (by omega)
  obtain ⟨d7, D7, b7⟩ := at' 7 (by omega)
  obtain ⟨m, hm⟩ : ∃ m : Nat, 2 + d0 % 5 = (m : Int) := ⟨(2 + d0 % 5).toNat, by omega⟩
  obtain ⟨L, e2, l2, nL⟩ := line2_ok (w := none) (j := 1) (m := m) hl (by omega) (by omega) (by omega)
  have rL : Rank L := ⟨nL.1, fun x hx => (nL.2 x hx).1, by omega, by omega⟩
  have n0 : L ≠ [] := List.length_pos_iff.mp (by omega)
  obtain ⟨h, hh, hb⟩ : ∃ h : Nat, (if d1 / 64 % 8 = 3 then (20 : Int) else 1 + d1 % 6) = (h : Int) ∧ 1 ≤ h ∧ h ≤ 20 := by
    split
    · exact ⟨20, rfl, by omega, by omega⟩
    · exact ⟨(1 + d1 % 6).toNat, by omega, by omega, by omega⟩
  obtain ⟨f, e3, l3, pf⟩ := folk4_ok (w := none) (j := 3) (h := h) (L := L) (free := d2 % ((h : Int) + 2)) hl (by omega) (by omega) (by omega) (by omega) (Int.emod_nonneg _ (by omega))
  obtain ⟨ws, e4, l4, bw⟩ := weights_ok (w := none) (j := 2) (h := h) hl (by omega) (by omega)
  have hF : Folk f := ⟨by omega, by omega, fun r hr => ⟨rL.perm (pf r hr), fun q hq => (pf q hq).trans (pf r hr).symm⟩⟩
  have hW : Wts f ws := ⟨by omega, fun x hx => (bw x hx).1⟩
  have bH : bdd 5 (.list [.list (f.map llD), .list (ws.map .int), .list (L.map .int)]) := bdd_list.mpr ⟨by simp, by
    intro d hd
    simp only [List.mem_cons, List.not_mem_nil, or_false] at hd
    rcases hd with rfl | rfl | rfl
    · exact bdd_folk (by omega) fun r hr => by rw [(pf r hr).length_eq]; omega
    · exact bdd_ints (by omega)
    · exact bdd_ints (by omega)⟩
  have e5 := copied_ok (w := none) (m := 6) bH (by omega)
  have heq : eqO (.list [.list (f.map llD), .list (ws.map .int), .list (L.map .int)]) (.list [.list (f.map llD), .list (ws.map .int), .list (L.map .int)]) = some (.val (.bool true)) := by
    unfold eqO
    have := bdd_dep bH
    rw [if_pos (by rw [Nat.min_self]; omega), PySem.SeqAt.eqv_refl_plain _ (bdd_plain bH)]
  obtain ⟨nf, e6, bnf, nnf⟩ := no_folk_ok (w := none) (f := f) (L := L) (n := d3) (by omega) (by omega) pf rL (by omega)
  obtain ⟨nw, e7, bnw, nnw⟩ := no_weights_ok (w := none) (ws := ws) (n := d4) (by omega) (by omega)
  obtain ⟨nl, e8, bnl, nnl⟩ := no_line_ok (w := none) (L := L) (n := d5) (by omega) (by omega)
  rw [l4, ← l3] at nnw
  have wok := weighed_ok (w := none) hF hW
  have g1 := refused54_a (w := none) (ks := [0, 1, 2, 3, 4, 5, 6, 7]) (dl := .none) (dm := .none) (by simp) (n := "NoFolk") (by decide) (by decide +kernel) (asked_weighed (weighed_nofolk (o := nw) bnf nnf))
  have g2 := refused54_a (w := none) (ks := [0, 1, 2, 3, 4, 5, 6, 7]) (dl := .none) (dm := .none) (by simp) (n := "NoWeights") (by decide) (by decide +kernel) (asked_weighed (weighed_no hF bnw nnw))
  have g3 := refused54_a (w := none) (ks := [5, 6, 7]) (dm := .int (-1)) (by simp) (n := "NoLine") (by decide) (by decide +kernel) (asked_fall wok (fall_noline bnl nnl))
  obtain ⟨a, T, hT⟩ := List.exists_cons_of_ne_nil (show f ≠ [] by intro z; rw [z] at l3; simp at l3; omega)
  have ha : f[0]? = some a := by rw [hT]; rfl
  have pa := pf a (List.mem_of_getElem? ha)
  -- other lines
  obtain ⟨mx1, mx2⟩ := maxI_facts n0
  have mxO : maxO [.list (L.map .int)] = some (.val (.int (maxI L))) := max_ints n0
  obtain ⟨gg, hgg⟩ : ∃ gg, maxI L + 1 = gg := ⟨_, rfl⟩
  have ngL : gg ∉ L := fun z => by have := mx1 _ z; omega
  have gp : 0 ≤ gg := by have := rL.2.1 _ mx2; omega
  obtain ⟨K, z0, hK⟩ : ∃ K z, L = K ++ [z] := (snoc_of L).resolve_left n0
  have cK : cutD (L.map PyData.int) none (some (-1)) = K.map .int := by rw [cutD_map, hK, cut_initE]
  have lK : K.length + 1 = L.length := by rw [hK]; simp
  have nR := rL.1
  have mK : ∀ x ∈ K, x ∈ L := fun x hx => by rw [hK]; exact List.mem_append_left _ hx
  have nK : K.Nodup := by rw [hK] at nR; exact (List.nodup_append.mp nR).1
  have r1 : Rank K := ⟨nK, fun x hx => rL.2.1 x (mK x hx), by omega, by omega⟩
  have r2 : Rank (L ++ [gg]) := ⟨List.nodup_append.mpr ⟨nR, by simp, fun a ha b hb => by simp at hb; subst hb; exact fun e => ngL (e ▸ ha)⟩, fun x hx => by
    rcases List.mem_append.mp hx with hx | hx
    · exact rL.2.1 x hx
    · simp at hx; omega, by simp, by simp; omega⟩
  have r3 : Rank (K ++ [gg]) := ⟨List.nodup_append.mpr ⟨nK, by simp, fun a ha b hb => by simp at hb; subst hb; exact fun e => ngL (mK _ (e ▸ ha))⟩, fun x hx => by
    rcases List.mem_append.mp hx with hx | hx
    · exact rL.2.1 x (mK x hx)
    · simp at hx; omega, by simp, by simp; omega⟩
  have noP : ∀ M : List Int, gg ∈ M → ¬ M.Perm a := fun M hM z => ngL (pa.mem_iff.mp (z.mem_iff.mp hM))
  have fit : ∀ M ∈ [K, K ++ [gg], L ++ [gg]], F_law_refused_v36 [.val (.list (([5, 6, 7]).map .int)), .val (.list ((f).map llD)), .val (.list ((ws).map .int)), .val (.list ((M).map .int)), .val (.int (0)), .val (.list [.str (Str.ofString "NoFit")])] none = .ok (.val (.bool true)) none := fun M hM => by
    have : Rank M ∧ ¬ M.Perm a := by
      simp only [List.mem_cons, List.not_mem_nil, or_false] at hM
      rcases hM with rfl | rfl | rfl
      · exact ⟨r1, fun z => by have := z.length_eq; have := pa.length_eq; omega⟩
      · exact ⟨r3, noP _ (by simp)⟩
      · exact ⟨r2, noP _ (by simp)⟩
    exact refused54_a (by simp) (n := "NoFit") (by decide) (by decide +kernel) (asked_fall wok (fall_nofit this.1 ha this.2))
  obtain ⟨KP, hKP⟩ : ∃ KP : List PyData, [PyData.list (f.map llD), .list (ws.map .int), .list (L.map .int)] = KP := ⟨_, rfl⟩
  rw [hKP] at e5 heq
  obtain ⟨s', e9, v10, rfl⟩ := loopN (b := bName 10) (p := b_law_k54_1) (f := llD) (l := [K, K ++ [gg], L ++ [gg]]) (s := ⟨[.ob (.scr ns), .own (ds.map .int), .val (.list ((L).map .int)), .val (.int ((h : Nat) : Int)), .val (.list ((f).map llD)), .val (.list ((ws).map .int)), .own KP, .ob (.excs "NoFall" [2, 0, d6]), .val nf, .val nw, .no, .no, .no, .no, .no], none⟩)
    (fun i s => ∃ v10, s = ⟨[.ob (.scr ns), .own (ds.map .int), .val (.list ((L).map .int)), .val (.int ((h : Nat) : Int)), .val (.list ((f).map llD)), .val (.list ((ws).map .int)), .own KP, .ob (.excs "NoFall" [2, 0, d6]), .val nf, .val nw, v10, .no, .no, .no, .no], none⟩) ⟨_, rfl⟩ (by
      rintro i M s hi hM ⟨v10, rfl⟩
      have q := fit M hM
      simp only [List.map_cons, List.map_nil] at q
      have s1 : leS 1 := size_le (by omega)
      have s3 : leS 3 := size_le (by omega)
      unfold b_law_k54_1
      simp -implicitDefEqProofs [llD, q, s1, s3])
  -- the hands whose rankings don't fall
  obtain ⟨keep, hkeep⟩ : ∃ keep : Nat → Bool, keep = fun k => match f[k]? with | some r => !fallB L r | none => false := ⟨_, rfl⟩
  obtain ⟨late, hlate⟩ : ∃ late, (List.range h).filter keep = late := ⟨_, rfl⟩
  have ec : l_law_k54_3 ⟨[.ob (.scr ns), .own (ds.map .int), .val (.list ((L).map .int)), .val (.int ((h : Nat) : Int)), .val (.list ((f).map llD)), .val (.list ((ws).map .int)), .own KP, .ob (.excs "NoFall" [2, 0, d6]), .val nf, .val nw, v10, .no, .no, .no, .no], none⟩ = .ok (.new (late.map fun k : Nat => PyData.int (k : Int))) ⟨[.ob (.scr ns), .own (ds.map .int), .val (.list ((L).map .int)), .val (.int ((h : Nat) : Int)), .val (.list ((f).map llD)), .val (.list ((ws).map .int)), .own KP, .ob (.excs "NoFall" [2, 0, d6]), .val nf, .val nw, v10, .no, .no, .no, .no], none⟩ := by
    rw [← hlate]
    have hB : inB (h : Int) := inB_of (by omega) (by omega)
    refine lc_gen (fun k : Nat => ⟨[.ob (.scr ns), .own (ds.map .int), .val (.list ((L).map .int)), .val (.int ((h : Nat) : Int)), .val (.list ((f).map llD)), .val (.list ((ws).map .int)), .own KP, .ob (.excs "NoFall" [2, 0, d6]), .val nf, .val nw, v10, .no, .no, .no, .val (.int ((k : Nat) : Int))], none⟩) _ _ (f := fun k : Nat => PyData.int (k : Int)) (l := List.range h) (by simp -implicitDefEqProofs [hB, rangeD]) (by rw [List.length_range]; omega) rfl (fun a _ => by rfl) (fun a _ => by rfl) (fun k hk => ?_) (fun k hk _ => ?_)
    · have hk := List.mem_range.mp hk
      have hr : f[k]? = some f[k] := List.getElem?_eq_getElem (by omega)
      have mr := List.mem_of_getElem? hr
      obtain ⟨r, er⟩ : ∃ r, f[k]'(by omega) = r := ⟨_, rfl⟩
      rw [er] at hr mr
      have hr' : atI (f.map llD) (k : Int) = some (.list (r.map .int)) := by rw [atI_nat, List.getElem?_map, hr]; rfl
      have ek : keep k = !fallB L r := by rw [hkeep]; dsimp only; rw [hr]
      unfold t_law_k54_2
      simp -implicitDefEqProofs [hr', law_falls_ok rL (pf r mr), ek]
    · unfold e_law_k54_3
      simp -implicitDefEqProofs
  have lsm : ∀ m : Nat, m ≤ 1000 → leS m := fun m h => size_le (by omega)
  have lL : late.length ≤ h := by rw [← hlate]; exact Nat.le_trans (List.length_filter_le _ _) (by rw [List.length_range]; exact Nat.le_refl _)
  have s1 : leS 1 := lsm _ (by omega)
  have s2 : leS 2 := lsm _ (by omega)
  have s3 : leS 3 := lsm _ (by omega)
  have s5 : leS 5 := lsm _ (by omega)
  have s8 : leS 8 := lsm _ (by omega)
  have t1 : leS (L.length + 1) := lsm _ (by omega)
  have t2 : leS (K.length + 1) := lsm _ (by omega)
  have md := mod_ok (a := d2) (b := (h : Int) + 2) (by omega)
  have hneq := neO_self (n := 1) (bdd_ints (n := 0) (l := [2, 0, d6]) (by simp)) (by omega)
  have eh : atI [PyData.int (1 + d1 % 6), .int 20] (if d1 / 64 % 8 = 3 then 1 else 0) = some (.int (h : Int)) := by
    rw [← hh]; split <;> rfl
  have r8 : rgS 0 8 := rgS_of (by omega) (by omega) (by omega) (by omega)
  have sK : leS KP.length := by rw [← hKP]; exact lsm _ (by simp)
  have e8r : rangeD 0 8 = ([0, 1, 2, 3, 4, 5, 6, 7] : List Int).map .int := rfl
  have e1 : F_law_draws [.ob (.scr ns), .val (.int (0)), .val (.int (8))] none = _ := e1
  have e2 : F_law_line_v2 [.ob (.scr ns), .val (.int (1)), .val (.int ((m : Nat) : Int))] none = _ := e2
  have e3 : F_law_folk_v4 [.ob (.scr ns), .val (.int (3)), .val (.list ((L).map .int)), .val (.int ((h : Nat) : Int)), .val (.int (d2 % ((h : Int) + 2)))] none = _ := e3
  have e4 : F_law_weights [.ob (.scr ns), .val (.int (2)), .val (.int ((h : Nat) : Int))] none = _ := e4
  simp only [List.map_cons, List.map_nil, List.map_append, llD] at e9 g1 g2 g3 hneq e8r
  unfold p_law_k54
  cases late with
  | nil =>
    have hall : ∀ r ∈ f, fallB L r = true := fun r hr => by
      obtain ⟨k, hk, ek⟩ := List.getElem_of_mem hr
      cases q : fallB L r with
      | true => rfl
      | false =>
        have : k ∈ (List.range h).filter keep := List.mem_filter.mpr ⟨List.mem_range.mpr (by omega), by rw [hkeep]; dsimp only; rw [List.getElem?_eq_getElem hk, ek]; dsimp only; rw [q]; rfl⟩
        rw [hlate] at this
        cases this
    have fok := fall_ok54 (w := none) rL ha pf hall
    have num : ∀ n ∈ [0, -1, (L.length : Int) + 1, (L.length : Int) + 1 + d6, -1 - d7 * 100000000000000000000], F_law_refused_v36 [.val (.list (([6, 7]).map .int)), .val (.list ((f).map llD)), .val (.list ((ws).map .int)), .val (.list ((L).map .int)), .val (.int (n)), .val (.list [.str (Str.ofString "NoNumber")])] none = .ok (.val (.bool true)) none := fun n hn => by
      refine refused54_a (by simp) (n := "NoNumber") (by decide) (by decide +kernel) (asked_number wok fok ?_)
      simp only [List.mem_cons, List.not_mem_nil, or_false] at hn
      rcases hn with rfl | rfl | rfl | rfl | rfl <;> omega
    obtain ⟨s', e10, v12, rfl⟩ := loopN (b := bName 12) (p := b_law_k54_4) (f := PyData.int) (l := [0, -1, (L.length : Int) + 1, (L.length : Int) + 1 + d6, -1 - d7 * 100000000000000000000]) (s := ⟨[.ob (.scr ns), .own (ds.map .int), .val (.list ((L).map .int)), .val (.int ((h : Nat) : Int)), .val (.list ((f).map llD)), .val (.list ((ws).map .int)), .own KP, .ob (.excs "NoFall" [2, 0, d6]), .val nf, .val nw, v10, .own [], .no, .no, .no], none⟩)
      (fun i s => ∃ v12, s = ⟨[.ob (.scr ns), .own (ds.map .int), .val (.list ((L).map .int)), .val (.int ((h : Nat) : Int)), .val (.list ((f).map llD)), .val (.list ((ws).map .int)), .own KP, .ob (.excs "NoFall" [2, 0, d6]), .val nf, .val nw, v10, .own [], v12, .no, .no], none⟩) ⟨_, rfl⟩ (by
        rintro i n s hi hn ⟨v12, rfl⟩
        have q := num n hn
        simp only [List.map_cons, List.map_nil] at q
        have s1 : leS 1 := size_le (by omega)
        have s2 : leS 2 := size_le (by omega)
        unfold b_law_k54_4
        simp -implicitDefEqProofs [q, s1, s2])
    simp only [List.map_cons, List.map_nil] at e10 ec
    have em7 : mulO (.int d7) (.int 100000000000000000000) = some (.val (.int (d7 * 100000000000000000000))) := mul_ok (by omega) (by omega) (by omega) (by omega)
    simp -implicitDefEqProofs [e1, D0, D1, D2, D3, D4, D5, D6, D7, hm, e2, eh, md, e3, e4, hKP, sK, e5, cpR', s1, s2, s3, s5, s8, r8, hneq, e6, e7, e8, e8r, g1, g2, g3, mxO, hgg, cK, t1, t2, e9, ec, em7, e10, heq]
  | cons k rest =>
    obtain ⟨A, B, eA, hA, hk, _⟩ := List.filter_eq_cons_iff.mp hlate
    obtain ⟨lA, mA⟩ := list_range_split eA
    have hkm : k ∈ List.range h := by rw [eA]; simp
    have hkh := List.mem_range.mp hkm
    have h1 : ∀ i r, i < k → f[i]? = some r → fallB L r = true := fun i r hi hr => by
      have := hA i (mA i hi)
      rw [hkeep] at this
      dsimp only at this
      rw [hr] at this
      simpa using this
    have h2 : ∀ r, f[k]? = some r → fallB L r = false := fun r hr => by
      rw [hkeep] at hk
      dsimp only at hk
      rw [hr] at hk
      simpa using hk
    have g5 := refused54_f (w := none) (ks := [5, 6, 7]) (dm := .int 0) (by simp) (asked_fall wok (fall_nofall rL ha pf (by omega) h1 h2))
    simp only [List.map_cons, List.map_nil] at g5 ec
    simp -implicitDefEqProofs [e1, D0, D1, D2, D3, D4, D5, D6, D7, hm, e2, eh, md, e3, e4, hKP, sK, e5, cpR', s1, s2, s3, s5, s8, r8, hneq, e6, e7, e8, e8r, g1, g2, g3, g5, mxO, hgg, cK, t1, t2, e9, ec, heq]

end DL

noncomputable section
namespace DL
open PySem L2 PyProof.Rows
open Evl (Ex)
namespace K54
def top (i : Nat) : Stmt := PySem.Challenge.pw_ontheline_k54_weights_and_lines_refused.main.body.getD i (.Pass ⟨0, 0, 0, 0⟩)
structure Txt (K : PySem.W.Frag) (mg : Str → Option Value) : Prop where
  b_isinstance : mg "isinstance" = none
  b_int : mg "int" = none
  b_bool : mg "bool" = none
  b_len : mg "len" = none
  b_list : mg "list" = none
  b_all : mg "all" = none
  b_set : mg "set" = none
  b_sorted : mg "sorted" = none
  b_min : mg "min" = none
  b_max : mg "max" = none
  b_enumerate : mg "enumerate" = none
  b_zip : mg "zip" = none
  b_tuple : mg "tuple" = none
  b_str : mg "str" = none
  b_sum : mg "sum" = none
  b_range : mg "range" = none
  b_ValueError : mg "ValueError" = none
  exc : ExGs K mg ["NoFall", "NoFit", "NoFolk", "NoLine", "NoNames", "NoNumber", "NoWeights"]
  ox_NoFall : OxF K mg "NoFall" "NoFall.__init__" (inSt (top 16))
  exy_NoBack : ExY K mg ["NoFall", "NoFit", "NoFolk", "NoLine", "NoNames", "NoNumber", "NoWeights"] "NoBack"
  exy_NoFixed : ExY K mg ["NoFall", "NoFit", "NoFolk", "NoLine", "NoNames", "NoNumber", "NoWeights"] "NoFixed"
  exy_NoHand : ExY K mg ["NoFall", "NoFit", "NoFolk", "NoLine", "NoNames", "NoNumber", "NoWeights"] "NoHand"
  exy_NoPaper : ExY K mg ["NoFall", "NoFit", "NoFolk", "NoLine", "NoNames", "NoNumber", "NoWeights"] "NoPaper"
  exy_NoRanking : ExY K mg ["NoFall", "NoFit", "NoFolk", "NoLine", "NoNames", "NoNumber", "NoWeights"] "NoRanking"
  exy_NoRow : ExY K mg ["NoFall", "NoFit", "NoFolk", "NoLine", "NoNames", "NoNumber", "NoWeights"] "NoRow"
  exy_NoRule : ExY K mg ["NoFall", "NoFit", "NoFolk", "NoLine", "NoNames", "NoNumber", "NoWeights"] "NoRule"
  exy_NoText : ExY K mg ["NoFall", "NoFit", "NoFolk", "NoLine", "NoNames", "NoNumber", "NoWeights"] "NoText"
  exy_NoTitle : ExY K mg ["NoFall", "NoFit", "NoFolk", "NoLine", "NoNames", "NoNumber", "NoWeights"] "NoTitle"
  exy_NoTops : ExY K mg ["NoFall", "NoFit", "NoFolk", "NoLine", "NoNames", "NoNumber", "NoWeights"] "NoTops"
  exy_NoTree : ExY K mg ["NoFall", "NoFit", "NoFolk", "NoLine", "NoNames", "NoNumber", "NoWeights"] "NoTree"
  exy_TooGreat : ExY K mg ["NoFall", "NoFit", "NoFolk", "NoLine", "NoNames", "NoNumber", "NoWeights"] "TooGreat"
  c_MOST_NAMES : ∃ t, mg "MOST_NAMES" = some (.int 10 t)
  c_MOST_HANDS : ∃ t, mg "MOST_HANDS" = some (.int 20 t)
  d_is_number : Wr K mg "is_number" (top 24) ["thing"]
  d_are_unlike_names : Wr K mg "are_unlike_names" (top 25) ["thing"]
  d_is_ranking : Wr K mg "is_ranking" (top 26) ["thing"]
  d_is_folk : Wr K mg "is_folk" (top 27) ["thing"]
  d_must_be_folk : Wr K mg "must_be_folk" (top 28) ["folk"]
  d_is_ahead : Wr K mg "is_ahead" (top 29) ["ranking", "one", "other"]
  d_is_line : Wr K mg "is_line" (top 31) ["thing"]
  d_must_be_line : Wr K mg "must_be_line" (top 32) ["line"]
  d_does_fall : Wr K mg "does_fall" (top 33) ["line", "ranking"]
  d_must_be_weighed : Wr K mg "must_be_weighed" (top 35) ["folk", "weights"]
  d_must_fall : Wr K mg "must_fall" (top 36) ["folk", "line"]
  d_lead : Wr K mg "lead" (top 37) ["folk", "weights", "one", "other"]
  d_margin : Wr K mg "margin" (top 38) ["folk", "weights", "one", "other"]
  d_beaters : Wr K mg "beaters" (top 39) ["folk", "weights", "some", "name"]
  d_order_wrong : Wr K mg "order_wrong" (top 40) ["folk", "weights", "thing"]
  d_ring_wrong : Wr K mg "ring_wrong" (top 41) ["folk", "weights", "thing"]
  d_order_judged : Wr K mg "order_judged" (top 42) ["folk", "weights", "paper"]
  d_ring_among : Wr K mg "ring_among" (top 43) ["folk", "weights", "some"]
  d_order_of : Wr K mg "order_of" (top 44) ["folk", "weights"]
  d_unbeaten : Wr K mg "unbeaten" (top 45) ["folk", "weights"]
  d_first_half : Wr K mg "first_half" (top 46) ["folk", "weights", "line"]
  d_middle : Wr K mg "middle" (top 47) ["folk", "weights", "line"]
  d_paid : Wr K mg "paid" (top 49) ["folk", "weights", "names"]
  d_cost : Wr K mg "cost" (top 50) ["folk", "weights", "names"]
  d_gain : Wr K mg "gain" (top 51) ["folk", "weights", "one", "other"]
  d_bounds : Wr K mg "bounds" (top 52) ["folk", "weights", "line", "ahead_of", "j", "at"]
  d_filled : Wr K mg "filled" (top 53) ["folk", "weights", "line", "many"]
  d_must_be_asked : Wr K mg "must_be_asked" (top 54) ["folk", "weights", "line", "many"]
  d_last_of : Wr K mg "last_of" (top 55) ["row"]
  d_few : Wr K mg "few" (top 56) ["folk", "weights", "line", "many"]
  d_are_along : Wr K mg "are_along" (top 57) ["line", "many", "thing"]
  d_is_row : Wr K mg "is_row" (top 58) ["j", "wide", "thing"]
  d_is_table : Wr K mg "is_table" (top 59) ["many", "wide", "thing"]
  d_table_wrong : Wr K mg "table_wrong" (top 60) ["folk", "weights", "line", "price", "table"]
  d_few_judged : Wr K mg "few_judged" (top 61) ["folk", "weights", "line", "many", "thing"]
  d__law_whole : Wr K mg "_law_whole" (top 63) ["_law_found"]
  d__law_draws : Wr K mg "_law_draws" (top 64) ["_law_script", "_law_j", "_law_many"]
  d__law_names : Wr K mg "_law_names" (top 65) ["_law_digits"]
  d__law_shuffled : Wr K mg "_law_shuffled" (top 66) ["_law_names_here", "_law_digits"]
  d__law_fallen : Wr K mg "_law_fallen" (top 67) ["_law_line_here", "_law_digits"]
  d__law_line : Wr K mg "_law_line" (top 68) ["_law_script", "_law_j", "_law_many"]
  d__law_folk : Wr K mg "_law_folk" (top 69) ["_law_script", "_law_j", "_law_line_here", "_law_hands", "_law_free"]
  d__law_weights : Wr K mg "_law_weights" (top 70) ["_law_script", "_law_j", "_law_hands"]
  d__law_falls : Wr K mg "_law_falls" (top 71) ["_law_line_here", "_law_ranking"]
  d__law_copied : Wr K mg "_law_copied" (top 72) ["_law_thing"]
  d__law_names_of : Wr K mg "_law_names_of" (top 73) ["_law_e"]
  d__law_asked : Wr K mg "_law_asked" (top 74) ["_law_way", "_law_folk_here", "_law_weights_here", "_law_line_here", "_law_many"]
  d__law_refused : Wr K mg "_law_refused" (top 75) ["_law_ways", "_law_folk_here", "_law_weights_here", "_law_line_here", "_law_many", "_law_word"]
  d__law_no_folk : Wr K mg "_law_no_folk" (top 76) ["_law_folk_here", "_law_number"]
  d__law_no_weights : Wr K mg "_law_no_weights" (top 77) ["_law_weights_here", "_law_number"]
  d__law_no_line : Wr K mg "_law_no_line" (top 78) ["_law_line_here", "_law_number"]
section
variable {P : Program} {w : World} {K : PySem.W.Frag} {mg : Str → Option Value} {base : Heap} {cl : String → Addr}
theorem wx_NoFall (T : Txt K mg) : InitOk P w K mg base "NoFall" := init_ok (m := "a ranking doesn't fall") T.ox_NoFall ⟨rfl, rfl, rfl, by decide +kernel, rfl, by decide +kernel, by decide +kernel⟩ fun f cdv A outer s H E => by
  obtain ⟨CF, g, r, v⟩ := T.ox_NoFall.bs
  exact pss_cons (ps_expr (pe_clsinit (x := "FolkError") rfl g r v (pa_cons (pe_var (i := 0) rfl (Or.inl rfl)) (pa_cons pe_str pa_nil)))) (pss_one (ps_ost (pe_var (i := 0) rfl (Or.inl rfl)) (pe_var (i := 1) rfl (Or.inl rfl))))
abbrev N_is_number : List Str := ["thing"]
theorem sc_is_number : FnScope N_is_number ["thing"] (defScope (top 24)) := ⟨rfl, rfl, rfl, by decide +kernel, rfl, by decide +kernel, by decide +kernel⟩
theorem w_is_number (T : Txt K mg) : Cal P w K mg base (clOf K) "is_number" 1 ["thing"] F_is_number := by
  have sc := sc_is_number
  refine cal_of T.d_is_number sc (by decide) fun f cdv A outer s H E hr => ?_
  have tk : Takes (cxOf (L2.CX P w) P w K mg base N_is_number "is_number" (defScope (top 24)) f cdv A outer s H E) (fun cls d _ H => E cls d H) := takes_of rfl rfl rfl rfl
  exact ss_one (s_ret (v_and (d_isi (m := "int") (by decide) rfl T.b_isinstance (d_var 0) (pe_bltn rfl T.b_int (by decide +kernel) rfl)) (v_one (v_not (d_isi (m := "bool") (by decide) rfl T.b_isinstance (d_var 0) (pe_bltn rfl T.b_bool (by decide +kernel) rfl))))))
abbrev N_are_unlike_names : List Str := ["thing", "name"]
theorem sc_are_unlike_names : FnScope N_are_unlike_names ["thing"] (defScope (top 25)) := ⟨rfl, rfl, rfl, by decide +kernel, rfl, by decide +kernel, by decide +kernel⟩
theorem w_are_unlike_names (T : Txt K mg)
    (c_is_number : Cal P w K mg base (clOf K) "is_number" 1 ["thing"] F_is_number) : Cal P w K mg base (clOf K) "are_unlike_names" 2 ["thing"] F_are_unlike_names := by
  have sc := sc_are_unlike_names
  refine cal_of T.d_are_unlike_names sc (by decide) fun f cdv A outer s H E hr => ?_
  have tk : Takes (cxOf (L2.CX P w) P w K mg base N_are_unlike_names "are_unlike_names" (defScope (top 25)) f cdv A outer s H E) (fun cls d _ H => E cls d H) := takes_of rfl rfl rfl rfl
  exact ss_cons (s_if (d_tw (w_or (d_tnot (d_tval (d_isi (m := "list") (by decide) rfl T.b_isinstance (d_var 0) (pe_bltn rfl T.b_list (by decide +kernel) rfl)))) (w_or1 (d_tnot (d_tval (d_callB (cr_all rfl) cd_all rfl T.b_all (by decide +kernel) (ap_cons (d_lc rfl sc.nd (own := [("name", 1)]) (i_list (d_var 0)) (blkOk_by (own := [("name", 1)]) (N := N_are_unlike_names) (sc := defScope (top 25)) (by decide +kernel)) (g_name 1) (by decide) (fun _ _ _ _ _ => pg_name (i := 1) sc.nd rfl (by first | exact Or.inl rfl | exact Or.inr rfl)) (fun _ _ _ _ _ => dts_nil) (fun _ _ _ _ _ => v_and (d_cal c_is_number (hr.mono (by decide)) passA0 (ae_cons (d_var 1) ae_nil)) (v_one (d_ge (d_var 1) d_int)))) ap_nil))))))) (ss_one (s_ret d_bl)) ss_nil) (ss_one (s_ret (d_eq hr.units (d_lenSet rfl rfl T.b_len rfl T.b_set (d_var 0)) (d_callB (CallR.or' call_len_seq call_len_str) cd_len rfl T.b_len (by decide +kernel) (ap_cons (d_var 0) ap_nil)))))
abbrev N_is_ranking : List Str := ["thing"]
theorem sc_is_ranking : FnScope N_is_ranking ["thing"] (defScope (top 26)) := ⟨rfl, rfl, rfl, by decide +kernel, rfl, by decide +kernel, by decide +kernel⟩
theorem w_is_ranking (T : Txt K mg)
    (c_are_unlike_names : Cal P w K mg base (clOf K) "are_unlike_names" 2 ["thing"] F_are_unlike_names) : Cal P w K mg base (clOf K) "is_ranking" 3 ["thing"] F_is_ranking := by
  obtain ⟨t_MOST_NAMES, k_MOST_NAMES⟩ := T.c_MOST_NAMES
  have sc := sc_is_ranking
  refine cal_of T.d_is_ranking sc (by decide) fun f cdv A outer s H E hr => ?_
  have tk : Takes (cxOf (L2.CX P w) P w K mg base N_is_ranking "is_ranking" (defScope (top 26)) f cdv A outer s H E) (fun cls d _ H => E cls d H) := takes_of rfl rfl rfl rfl
  exact ss_one (s_ret (v_and (d_cal c_are_unlike_names (hr.mono (by decide)) (passAt tk) (ae_cons (d_var 0) ae_nil)) (v_and (d_gt (d_callB (CallR.or' call_len_seq call_len_str) cd_len rfl T.b_len (by decide +kernel) (ap_cons (d_var 0) ap_nil)) d_int) (v_one (d_le (d_callB (CallR.or' call_len_seq call_len_str) cd_len rfl T.b_len (by decide +kernel) (ap_cons (d_var 0) ap_nil)) (d_globI rfl k_MOST_NAMES))))))
abbrev N_is_folk : List Str := ["thing", "ranking"]
theorem sc_is_folk : FnScope N_is_folk ["thing"] (defScope (top 27)) := ⟨rfl, rfl, rfl, by decide +kernel, rfl, by decide +kernel, by decide +kernel⟩
theorem w_is_folk (T : Txt K mg)
    (c_is_ranking : Cal P w K mg base (clOf K) "is_ranking" 3 ["thing"] F_is_ranking) : Cal P w K mg base (clOf K) "is_folk" 4 ["thing"] F_is_folk := by
  obtain ⟨t_MOST_HANDS, k_MOST_HANDS⟩ := T.c_MOST_HANDS
  have sc := sc_is_folk
  refine cal_of T.d_is_folk sc (by decide) fun f cdv A outer s H E hr => ?_
  have tk : Takes (cxOf (L2.CX P w) P w K mg base N_is_folk "is_folk" (defScope (top 27)) f cdv A outer s H E) (fun cls d _ H => E cls d H) := takes_of rfl rfl rfl rfl
  exact ss_cons (s_if (d_tw (w_or (d_tnot (d_tval (d_isi (m := "list") (by decide) rfl T.b_isinstance (d_var 0) (pe_bltn rfl T.b_list (by decide +kernel) rfl)))) (w_or (t_lt (d_callB (CallR.or' call_len_seq call_len_str) cd_len rfl T.b_len (by decide +kernel) (ap_cons (d_var 0) ap_nil)) d_int) (w_or1 (t_gt (d_callB (CallR.or' call_len_seq call_len_str) cd_len rfl T.b_len (by decide +kernel) (ap_cons (d_var 0) ap_nil)) (d_globI rfl k_MOST_HANDS)))))) (ss_one (s_ret d_bl)) ss_nil) (ss_cons (s_if (d_tnot (d_tval (d_callB (cr_all rfl) cd_all rfl T.b_all (by decide +kernel) (ap_cons (d_lc rfl sc.nd (own := [("ranking", 1)]) (i_list (d_var 0)) (blkOk_by (own := [("ranking", 1)]) (N := N_is_folk) (sc := defScope (top 27)) (by decide +kernel)) (g_name 1) (by decide) (fun _ _ _ _ _ => pg_name (i := 1) sc.nd rfl (by first | exact Or.inl rfl | exact Or.inr rfl)) (fun _ _ _ _ _ => dts_nil) (fun _ _ _ _ _ => d_cal c_is_ranking (hr.mono (by decide)) passA0 (ae_cons (d_var 1) ae_nil))) ap_nil)))) (ss_one (s_ret d_bl)) ss_nil) (ss_one (s_ret (d_callB (cr_all rfl) cd_all rfl T.b_all (by decide +kernel) (ap_cons (d_lc rfl sc.nd (own := [("ranking", 1)]) (i_list (d_var 0)) (blkOk_by (own := [("ranking", 1)]) (N := N_is_folk) (sc := defScope (top 27)) (by decide +kernel)) (g_name 1) (by decide) (fun _ _ _ _ _ => pg_name (i := 1) sc.nd rfl (by first | exact Or.inl rfl | exact Or.inr rfl)) (fun _ _ _ _ _ => dts_nil) (fun _ _ _ _ _ => d_eq hr.units (d_callB (CallR.or' cr_sortedI (cr_sortedD hr.units)) cd_sorted rfl T.b_sorted (by decide +kernel) (ap_cons (d_var 1) ap_nil)) (d_callB (CallR.or' cr_sortedI (cr_sortedD hr.units)) cd_sorted rfl T.b_sorted (by decide +kernel) (ap_cons (d_ix (d_var 0) d_int (fun _ _ => rfl)) ap_nil)))) ap_nil)))))
abbrev N_must_be_folk : List Str := ["folk"]
theorem sc_must_be_folk : FnScope N_must_be_folk ["folk"] (defScope (top 28)) := ⟨rfl, rfl, rfl, by decide +kernel, rfl, by decide +kernel, by decide +kernel⟩
theorem w_must_be_folk (T : Txt K mg)
    (c_is_folk : Cal P w K mg base (clOf K) "is_folk" 4 ["thing"] F_is_folk) : Cal P w K mg base (clOf K) "must_be_folk" 5 ["folk"] F_must_be_folk := by
  have sc := sc_must_be_folk
  refine cal_of T.d_must_be_folk sc (by decide) fun f cdv A outer s H E hr => ?_
  have tk : Takes (cxOf (L2.CX P w) P w K mg base N_must_be_folk "must_be_folk" (defScope (top 28)) f cdv A outer s H E) (fun cls d _ H => E cls d H) := takes_of rfl rfl rfl rfl
  exact ss_one (s_if (d_tnot (d_tval (d_cal c_is_folk (hr.mono (by decide)) (passAt tk) (ae_cons (d_var 0) ae_nil)))) (ss_one (s_raise (n := "NoFolk") rfl tk rfl ((T.exc.each "NoFolk" (by decide)).x (by decide) (by decide)) (T.exc.each "NoFolk" (by decide)).g (T.exc.each "NoFolk" (by decide)).kp (T.exc.each "NoFolk" (by decide)).b (T.exc.each "NoFolk" (by decide)).ty rfl)) ss_nil)
abbrev N_is_ahead : List Str := ["ranking", "one", "other"]
theorem sc_is_ahead : FnScope N_is_ahead ["ranking", "one", "other"] (defScope (top 29)) := ⟨rfl, rfl, rfl, by decide +kernel, rfl, by decide +kernel, by decide +kernel⟩
theorem w_is_ahead (T : Txt K mg) : Cal P w K mg base (clOf K) "is_ahead" 1 ["ranking", "one", "other"] F_is_ahead := by
  have sc := sc_is_ahead
  refine cal_of T.d_is_ahead sc (by decide) fun f cdv A outer s H E hr => ?_
  have tk : Takes (cxOf (L2.CX P w) P w K mg base N_is_ahead "is_ahead" (defScope (top 29)) f cdv A outer s H E) (fun cls d _ H => E cls d H) := takes_of rfl rfl rfl rfl
  exact ss_one (s_ret (d_lt (d_index (d_var 0) (d_var 1)) (d_index (d_var 0) (d_var 2))))
abbrev N_is_line : List Str := ["thing"]
theorem sc_is_line : FnScope N_is_line ["thing"] (defScope (top 31)) := ⟨rfl, rfl, rfl, by decide +kernel, rfl, by decide +kernel, by decide +kernel⟩
theorem w_is_line (T : Txt K mg)
    (c_is_ranking : Cal P w K mg base (clOf K) "is_ranking" 3 ["thing"] F_is_ranking) : Cal P w K mg base (clOf K) "is_line" 4 ["thing"] F_is_line := by
  have sc := sc_is_line
  refine cal_of T.d_is_line sc (by decide) fun f cdv A outer s H E hr => ?_
  have tk : Takes (cxOf (L2.CX P w) P w K mg base N_is_line "is_line" (defScope (top 31)) f cdv A outer s H E) (fun cls d _ H => E cls d H) := takes_of rfl rfl rfl rfl
  exact ss_one (s_ret (d_cal c_is_ranking (hr.mono (by decide)) (passAt tk) (ae_cons (d_var 0) ae_nil)))
abbrev N_must_be_line : List Str := ["line"]
theorem sc_must_be_line : FnScope N_must_be_line ["line"] (defScope (top 32)) := ⟨rfl, rfl, rfl, by decide +kernel, rfl, by decide +kernel, by decide +kernel⟩
theorem w_must_be_line (T : Txt K mg)
    (c_is_line : Cal P w K mg base (clOf K) "is_line" 4 ["thing"] F_is_line) : Cal P w K mg base (clOf K) "must_be_line" 5 ["line"] F_must_be_line := by
  have sc := sc_must_be_line
  refine cal_of T.d_must_be_line sc (by decide) fun f cdv A outer s H E hr => ?_
  have tk : Takes (cxOf (L2.CX P w) P w K mg base N_must_be_line "must_be_line" (defScope (top 32)) f cdv A outer s H E) (fun cls d _ H => E cls d H) := takes_of rfl rfl rfl rfl
  exact ss_one (s_if (d_tnot (d_tval (d_cal c_is_line (hr.mono (by decide)) (passAt tk) (ae_cons (d_var 0) ae_nil)))) (ss_one (s_raise (n := "NoLine") rfl tk rfl ((T.exc.each "NoLine" (by decide)).x (by decide) (by decide)) (T.exc.each "NoLine" (by decide)).g (T.exc.each "NoLine" (by decide)).kp (T.exc.each "NoLine" (by decide)).b (T.exc.each "NoLine" (by decide)).ty rfl)) ss_nil)
abbrev N_does_fall : List Str := ["line", "ranking", "low", "high", "name", "at"]
theorem sc_does_fall : FnScope N_does_fall ["line", "ranking"] (defScope (top 33)) := ⟨rfl, rfl, rfl, by decide +kernel, rfl, by decide +kernel, by decide +kernel⟩
theorem w_does_fall (T : Txt K mg) : Cal P w K mg base (clOf K) "does_fall" 1 ["line", "ranking"] F_does_fall := by
  have sc := sc_does_fall
  refine cal_of T.d_does_fall sc (by decide) fun f cdv A outer s H E hr => ?_
  have tk : Takes (cxOf (L2.CX P w) P w K mg base N_does_fall "does_fall" (defScope (top 33)) f cdv A outer s H E) (fun cls d _ H => E cls d H) := takes_of rfl rfl rfl rfl
  exact ss_cons (s_set (i := 2) sc.nd rfl (by first | exact Or.inl rfl | exact Or.inr rfl) (d_index (d_var 0) (d_ix (d_var 1) d_int (fun _ _ => rfl)))) (ss_cons (s_set (i := 3) sc.nd rfl (by first | exact Or.inl rfl | exact Or.inr rfl) (d_var 2)) (ss_cons (s_for (passes_of rfl) rfl (i_list (d_slice (d_var 1) (dp_some d_int) dp_none)) (pg_name (i := 4) sc.nd rfl (by first | exact Or.inl rfl | exact Or.inr rfl)) (g_name 4) (ss_cons (s_set (i := 5) sc.nd rfl (by first | exact Or.inl rfl | exact Or.inr rfl) (d_index (d_var 0) (d_var 4))) (ss_cons (s_if (d_tw (w_and (t_ne hr.units (d_var 5) (d_sub (d_var 2) d_int)) (w_and1 (t_ne hr.units (d_var 5) (d_add (d_var 3) d_int))))) (ss_one (s_ret d_bl)) ss_nil) (ss_cons (s_set (i := 2) sc.nd rfl (by first | exact Or.inl rfl | exact Or.inr rfl) (d_callB (CallR.or' (cr_min rfl) (call_min2 rfl)) cd_min rfl T.b_min (by decide +kernel) (ap_cons (d_var 2) (ap_cons (d_var 5) ap_nil)))) (ss_one (s_set (i := 3) sc.nd rfl (by first | exact Or.inl rfl | exact Or.inr rfl) (d_callB (CallR.or' (cr_max rfl) (call_max2 rfl)) cd_max rfl T.b_max (by decide +kernel) (ap_cons (d_var 3) (ap_cons (d_var 5) ap_nil))))))))) (ss_one (s_ret d_bl))))
abbrev N_must_be_weighed : List Str := ["folk", "weights", "weight"]
theorem sc_must_be_weighed : FnScope N_must_be_weighed ["folk", "weights"] (defScope (top 35)) := ⟨rfl, rfl, rfl, by decide +kernel, rfl, by decide +kernel, by decide +kernel⟩
theorem w_must_be_weighed (T : Txt K mg)
    (c_is_number : Cal P w K mg base (clOf K) "is_number" 1 ["thing"] F_is_number)
    (c_must_be_folk : Cal P w K mg base (clOf K) "must_be_folk" 5 ["folk"] F_must_be_folk) : Cal P w K mg base (clOf K) "must_be_weighed" 6 ["folk", "weights"] F_must_be_weighed := by
  have sc := sc_must_be_weighed
  refine cal_of T.d_must_be_weighed sc (by decide) fun f cdv A outer s H E hr => ?_
  have tk : Takes (cxOf (L2.CX P w) P w K mg base N_must_be_weighed "must_be_weighed" (defScope (top 35)) f cdv A outer s H E) (fun cls d _ H => E cls d H) := takes_of rfl rfl rfl rfl
  exact ss_cons (s_expr (d_cal c_must_be_folk (hr.mono (by decide)) (passAt tk) (ae_cons (d_var 0) ae_nil))) (ss_cons (s_if (d_tw (w_or (d_tnot (d_tval (d_isi (m := "list") (by decide) rfl T.b_isinstance (d_var 1) (pe_bltn rfl T.b_list (by decide +kernel) rfl)))) (w_or1 (t_ne hr.units (d_callB (CallR.or' call_len_seq call_len_str) cd_len rfl T.b_len (by decide +kernel) (ap_cons (d_var 1) ap_nil)) (d_callB (CallR.or' call_len_seq call_len_str) cd_len rfl T.b_len (by decide +kernel) (ap_cons (d_var 0) ap_nil)))))) (ss_one (s_raise (n := "NoWeights") rfl tk rfl ((T.exc.each "NoWeights" (by decide)).x (by decide) (by decide)) (T.exc.each "NoWeights" (by decide)).g (T.exc.each "NoWeights" (by decide)).kp (T.exc.each "NoWeights" (by decide)).b (T.exc.each "NoWeights" (by decide)).ty rfl)) ss_nil) (ss_one (s_if (d_tnot (d_tval (d_callB (cr_all rfl) cd_all rfl T.b_all (by decide +kernel) (ap_cons (d_lc rfl sc.nd (own := [("weight", 2)]) (i_list (d_var 1)) (blkOk_by (own := [("weight", 2)]) (N := N_must_be_weighed) (sc := defScope (top 35)) (by decide +kernel)) (g_name 2) (by decide) (fun _ _ _ _ _ => pg_name (i := 2) sc.nd rfl (by first | exact Or.inl rfl | exact Or.inr rfl)) (fun _ _ _ _ _ => dts_nil) (fun _ _ _ _ _ => v_and (d_cal c_is_number (hr.mono (by decide)) passA0 (ae_cons (d_var 2) ae_nil)) (v_one (d_ge (d_var 2) d_int)))) ap_nil)))) (ss_one (s_raise (n := "NoWeights") rfl tk rfl ((T.exc.each "NoWeights" (by decide)).x (by decide) (by decide)) (T.exc.each "NoWeights" (by decide)).g (T.exc.each "NoWeights" (by decide)).kp (T.exc.each "NoWeights" (by decide)).b (T.exc.each "NoWeights" (by decide)).ty rfl)) ss_nil)))
abbrev N_must_fall : List Str := ["folk", "line", "hand", "ranking"]
theorem sc_must_fall : FnScope N_must_fall ["folk", "line"] (defScope (top 36)) := ⟨rfl, rfl, rfl, by decide +kernel, rfl, by decide +kernel, by decide +kernel⟩
theorem w_must_fall (T : Txt K mg)
    (c_must_be_line : Cal P w K mg base (clOf K) "must_be_line" 5 ["line"] F_must_be_line)
    (c_does_fall : Cal P w K mg base (clOf K) "does_fall" 1 ["line", "ranking"] F_does_fall) : Cal P w K mg base (clOf K) "must_fall" 6 ["folk", "line"] F_must_fall_v2 := by
  have sc := sc_must_fall
  refine cal_of T.d_must_fall sc (by decide) fun f cdv A outer s H E hr => ?_
  have tk : Takes (cxOf (L2.CX P w) P w K mg base N_must_fall "must_fall" (defScope (top 36)) f cdv A outer s H E) (fun cls d _ H => E cls d H) := takes_of rfl rfl rfl rfl
  exact ss_cons (s_expr (d_cal c_must_be_line (hr.mono (by decide)) (passAt tk) (ae_cons (d_var 1) ae_nil))) (ss_cons (s_if (t_ne hr.units (d_callB (CallR.or' cr_sortedI (cr_sortedD hr.units)) cd_sorted rfl T.b_sorted (by decide +kernel) (ap_cons (d_var 1) ap_nil)) (d_callB (CallR.or' cr_sortedI (cr_sortedD hr.units)) cd_sorted rfl T.b_sorted (by decide +kernel) (ap_cons (d_ix (d_var 0) d_int (fun _ _ => rfl)) ap_nil))) (ss_one (s_raise (n := "NoFit") rfl tk rfl ((T.exc.each "NoFit" (by decide)).x (by decide) (by decide)) (T.exc.each "NoFit" (by decide)).g (T.exc.each "NoFit" (by decide)).kp (T.exc.each "NoFit" (by decide)).b (T.exc.each "NoFit" (by decide)).ty rfl)) ss_nil) (ss_one (s_for (passes_of rfl) rfl (i_enum rfl T.b_enumerate (ae_cons (d_var 0) ae_nil)) (pg_tup rfl (pgs_cons (pg_name (i := 2) sc.nd rfl (by first | exact Or.inl rfl | exact Or.inr rfl)) (pgs_cons (pg_name (i := 3) sc.nd rfl (by first | exact Or.inl rfl | exact Or.inr rfl)) pgs_nil))) (g_tup (n := 2) (g_cons (g_name 2) (g_cons (g_name 3) g_nil))) (ss_one (s_if (d_tnot (d_tval (d_cal c_does_fall (hr.mono (by decide)) (passAt tk) (ae_cons (d_var 1) (ae_cons (d_var 3) ae_nil))))) (ss_one (s_raiseA (n := "NoFall") (wx_NoFall (P := P) (w := w) (base := base) T) rfl (hr.room.mono (by decide)) rfl tk rfl rfl (d_var 2))) ss_nil)))))
abbrev N_lead : List Str := ["folk", "weights", "one", "other", "total", "ranking", "weight"]
theorem sc_lead : FnScope N_lead ["folk", "weights", "one", "other"] (defScope (top 37)) := ⟨rfl, rfl, rfl, by decide +kernel, rfl, by decide +kernel, by decide +kernel⟩
theorem w_lead (T : Txt K mg)
    (c_is_ahead : Cal P w K mg base (clOf K) "is_ahead" 1 ["ranking", "one", "other"] F_is_ahead) : Cal P w K mg base (clOf K) "lead" 2 ["folk", "weights", "one", "other"] F_lead := by
  have sc := sc_lead
  refine cal_of T.d_lead sc (by decide) fun f cdv A outer s H E hr => ?_
  have tk : Takes (cxOf (L2.CX P w) P w K mg base N_lead "lead" (defScope (top 37)) f cdv A outer s H E) (fun cls d _ H => E cls d H) := takes_of rfl rfl rfl rfl
  exact ss_cons (s_set (i := 4) sc.nd rfl (by first | exact Or.inl rfl | exact Or.inr rfl) d_int) (ss_cons (s_for (passes_of rfl) rfl (i_zip rfl T.b_zip (ae_cons (d_var 0) (ae_cons (d_var 1) ae_nil)) (fun h => pi_zip (by rfl) T.b_zip h)) (pg_tup rfl (pgs_cons (pg_name (i := 5) sc.nd rfl (by first | exact Or.inl rfl | exact Or.inr rfl)) (pgs_cons (pg_name (i := 6) sc.nd rfl (by first | exact Or.inl rfl | exact Or.inr rfl)) pgs_nil))) (g_tup (n := 2) (g_cons (g_name 5) (g_cons (g_name 6) g_nil))) (ss_one (s_if (d_tval (d_cal c_is_ahead (hr.mono (by decide)) (passAt tk) (ae_cons (d_var 5) (ae_cons (d_var 2) (ae_cons (d_var 3) ae_nil))))) (ss_one (s_aug (i := 4) sc.nd rfl (by first | exact Or.inl rfl | exact Or.inr rfl) (d_var 6) ip_add)) (ss_one (s_aug (i := 4) sc.nd rfl (by first | exact Or.inl rfl | exact Or.inr rfl) (d_var 6) ip_sub))))) (ss_one (s_ret (d_var 4))))
abbrev N_margin : List Str := ["folk", "weights", "one", "other"]
theorem sc_margin : FnScope N_margin ["folk", "weights", "one", "other"] (defScope (top 38)) := ⟨rfl, rfl, rfl, by decide +kernel, rfl, by decide +kernel, by decide +kernel⟩
theorem w_margin (T : Txt K mg)
    (c_must_be_weighed : Cal P w K mg base (clOf K) "must_be_weighed" 6 ["folk", "weights"] F_must_be_weighed)
    (c_lead : Cal P w K mg base (clOf K) "lead" 2 ["folk", "weights", "one", "other"] F_lead) : Cal P w K mg base (clOf K) "margin" 7 ["folk", "weights", "one", "other"] F_margin := by
  have sc := sc_margin
  refine cal_of T.d_margin sc (by decide) fun f cdv A outer s H E hr => ?_
  have tk : Takes (cxOf (L2.CX P w) P w K mg base N_margin "margin" (defScope (top 38)) f cdv A outer s H E) (fun cls d _ H => E cls d H) := takes_of rfl rfl rfl rfl
  exact ss_cons (s_expr (d_cal c_must_be_weighed (hr.mono (by decide)) (passAt tk) (ae_cons (d_var 0) (ae_cons (d_var 1) ae_nil)))) (ss_cons (s_if (d_tw (w_or (t_notIn hr.units (by rfl) (d_var 2) (d_ix (d_var 0) d_int (fun _ _ => rfl))) (w_or (t_notIn hr.units (by rfl) (d_var 3) (d_ix (d_var 0) d_int (fun _ _ => rfl))) (w_or1 (t_eq hr.units (d_var 2) (d_var 3)))))) (ss_one (s_raise (n := "NoNames") rfl tk rfl ((T.exc.each "NoNames" (by decide)).x (by decide) (by decide)) (T.exc.each "NoNames" (by decide)).g (T.exc.each "NoNames" (by decide)).kp (T.exc.each "NoNames" (by decide)).b (T.exc.each "NoNames" (by decide)).ty rfl)) ss_nil) (ss_one (s_ret (d_cal c_lead (hr.mono (by decide)) (passAt tk) (ae_cons (d_var 0) (ae_cons (d_var 1) (ae_cons (d_var 2) (ae_cons (d_var 3) ae_nil))))))))
abbrev N_beaters : List Str := ["folk", "weights", "some", "name", "other"]
theorem sc_beaters : FnScope N_beaters ["folk", "weights", "some", "name"] (defScope (top 39)) := ⟨rfl, rfl, rfl, by decide +kernel, rfl, by decide +kernel, by decide +kernel⟩
theorem w_beaters (T : Txt K mg)
    (c_lead : Cal P w K mg base (clOf K) "lead" 2 ["folk", "weights", "one", "other"] F_lead) : Cal P w K mg base (clOf K) "beaters" 3 ["folk", "weights", "some", "name"] F_beaters := by
  have sc := sc_beaters
  refine cal_of T.d_beaters sc (by decide) fun f cdv A outer s H E hr => ?_
  have tk : Takes (cxOf (L2.CX P w) P w K mg base N_beaters "beaters" (defScope (top 39)) f cdv A outer s H E) (fun cls d _ H => E cls d H) := takes_of rfl rfl rfl rfl
  exact ss_one (s_ret (d_lc rfl sc.nd (own := [("other", 4)]) (i_list (d_var 2)) (blkOk_by (own := [("other", 4)]) (N := N_beaters) (sc := defScope (top 39)) (by decide +kernel)) (g_name 4) (by decide) (fun _ _ _ _ _ => pg_name (i := 4) sc.nd rfl (by first | exact Or.inl rfl | exact Or.inr rfl)) (fun _ _ _ _ _ => dts_one (d_tw (w_and (t_ne hr.units (d_var 4) (d_var 3)) (w_and1 (t_gt (d_cal c_lead (hr.mono (by decide)) passA0 (ae_cons (d_var 0) (ae_cons (d_var 1) (ae_cons (d_var 4) (ae_cons (d_var 3) ae_nil))))) d_int))))) (fun _ _ _ _ _ => d_var 4)))
abbrev N_order_wrong : List Str := ["folk", "weights", "thing", "k", "name", "found"]
theorem sc_order_wrong : FnScope N_order_wrong ["folk", "weights", "thing"] (defScope (top 40)) := ⟨rfl, rfl, rfl, by decide +kernel, rfl, by decide +kernel, by decide +kernel⟩
theorem w_order_wrong (T : Txt K mg)
    (c_are_unlike_names : Cal P w K mg base (clOf K) "are_unlike_names" 2 ["thing"] F_are_unlike_names)
    (c_beaters : Cal P w K mg base (clOf K) "beaters" 3 ["folk", "weights", "some", "name"] F_beaters) : Cal P w K mg base (clOf K) "order_wrong" 4 ["folk", "weights", "thing"] F_order_wrong := by
  have sc := sc_order_wrong
  refine cal_of T.d_order_wrong sc (by decide) fun f cdv A outer s H E hr => ?_
  have tk : Takes (cxOf (L2.CX P w) P w K mg base N_order_wrong "order_wrong" (defScope (top 40)) f cdv A outer s H E) (fun cls d _ H => E cls d H) := takes_of rfl rfl rfl rfl
  exact ss_cons (s_if (d_tw (w_or (d_tnot (d_tval (d_cal c_are_unlike_names (hr.mono (by decide)) (passAt tk) (ae_cons (d_var 2) ae_nil)))) (w_or1 (t_ne hr.units (d_callB (CallR.or' cr_sortedI (cr_sortedD hr.units)) cd_sorted rfl T.b_sorted (by decide +kernel) (ap_cons (d_var 2) ap_nil)) (d_callB (CallR.or' cr_sortedI (cr_sortedD hr.units)) cd_sorted rfl T.b_sorted (by decide +kernel) (ap_cons (d_ix (d_var 0) d_int (fun _ _ => rfl)) ap_nil)))))) (ss_one (s_ret (d_tup (ae_cons d_str ae_nil)))) ss_nil) (ss_cons (s_for (passes_of rfl) rfl (i_enum rfl T.b_enumerate (ae_cons (d_var 2) ae_nil)) (pg_tup rfl (pgs_cons (pg_name (i := 3) sc.nd rfl (by first | exact Or.inl rfl | exact Or.inr rfl)) (pgs_cons (pg_name (i := 4) sc.nd rfl (by first | exact Or.inl rfl | exact Or.inr rfl)) pgs_nil))) (g_tup (n := 2) (g_cons (g_name 3) (g_cons (g_name 4) g_nil))) (ss_cons (s_set (i := 5) sc.nd rfl (by first | exact Or.inl rfl | exact Or.inr rfl) (d_cal c_beaters (hr.mono (by decide)) (passAt tk) (ae_cons (d_var 0) (ae_cons (d_var 1) (ae_cons (d_slice (d_var 2) (dp_some (d_add (d_var 3) d_int)) dp_none) (ae_cons (d_var 4) ae_nil)))))) (ss_one (s_if (t_ne hr.units (d_var 5) (d_lst ae_nil)) (ss_one (s_ret (d_tup (ae_cons d_str (ae_cons (d_var 4) (ae_cons (d_ix (d_var 5) d_int (fun _ _ => rfl)) ae_nil)))))) ss_nil)))) (ss_one (s_ret d_non)))
abbrev N_ring_wrong : List Str := ["folk", "weights", "thing", "k", "name"]
theorem sc_ring_wrong : FnScope N_ring_wrong ["folk", "weights", "thing"] (defScope (top 41)) := ⟨rfl, rfl, rfl, by decide +kernel, rfl, by decide +kernel, by decide +kernel⟩
theorem w_ring_wrong (T : Txt K mg)
    (c_are_unlike_names : Cal P w K mg base (clOf K) "are_unlike_names" 2 ["thing"] F_are_unlike_names)
    (c_lead : Cal P w K mg base (clOf K) "lead" 2 ["folk", "weights", "one", "other"] F_lead) : Cal P w K mg base (clOf K) "ring_wrong" 3 ["folk", "weights", "thing"] F_ring_wrong := by
  have sc := sc_ring_wrong
  refine cal_of T.d_ring_wrong sc (by decide) fun f cdv A outer s H E hr => ?_
  have tk : Takes (cxOf (L2.CX P w) P w K mg base N_ring_wrong "ring_wrong" (defScope (top 41)) f cdv A outer s H E) (fun cls d _ H => E cls d H) := takes_of rfl rfl rfl rfl
  exact ss_cons (s_if (d_tw (w_or (d_tnot (d_tval (d_cal c_are_unlike_names (hr.mono (by decide)) (passAt tk) (ae_cons (d_var 2) ae_nil)))) (w_or (t_lt (d_callB (CallR.or' call_len_seq call_len_str) cd_len rfl T.b_len (by decide +kernel) (ap_cons (d_var 2) ap_nil)) d_int) (w_or1 (d_tnot (d_tval (d_callB (cr_all rfl) cd_all rfl T.b_all (by decide +kernel) (ap_cons (d_lc rfl sc.nd (own := [("name", 4)]) (i_list (d_var 2)) (blkOk_by (own := [("name", 4)]) (N := N_ring_wrong) (sc := defScope (top 41)) (by decide +kernel)) (g_name 4) (by decide) (fun _ _ _ _ _ => pg_name (i := 4) sc.nd rfl (by first | exact Or.inl rfl | exact Or.inr rfl)) (fun _ _ _ _ _ => dts_nil) (fun _ _ _ _ _ => d_in hr.units (by rfl) (d_var 4) (d_ix (d_var 0) d_int (fun _ _ => rfl)))) ap_nil)))))))) (ss_one (s_ret (d_tup (ae_cons d_str ae_nil)))) ss_nil) (ss_cons (s_for (passes_of rfl) rfl (i_enum rfl T.b_enumerate (ae_cons (d_var 2) ae_nil)) (pg_tup rfl (pgs_cons (pg_name (i := 3) sc.nd rfl (by first | exact Or.inl rfl | exact Or.inr rfl)) (pgs_cons (pg_name (i := 4) sc.nd rfl (by first | exact Or.inl rfl | exact Or.inr rfl)) pgs_nil))) (g_tup (n := 2) (g_cons (g_name 3) (g_cons (g_name 4) g_nil))) (ss_one (s_if (t_le (d_cal c_lead (hr.mono (by decide)) (passAt tk) (ae_cons (d_var 0) (ae_cons (d_var 1) (ae_cons (d_var 4) (ae_cons (d_ix (d_var 2) (d_mod (d_add (d_var 3) d_int) (d_callB (CallR.or' call_len_seq call_len_str) cd_len rfl T.b_len (by decide +kernel) (ap_cons (d_var 2) ap_nil))) (fun _ _ => rfl)) ae_nil))))) d_int) (ss_one (s_ret (d_tup (ae_cons d_str (ae_cons (d_var 3) ae_nil))))) ss_nil))) (ss_one (s_ret d_non)))
abbrev N_order_judged : List Str := ["folk", "weights", "paper"]
theorem sc_order_judged : FnScope N_order_judged ["folk", "weights", "paper"] (defScope (top 42)) := ⟨rfl, rfl, rfl, by decide +kernel, rfl, by decide +kernel, by decide +kernel⟩
theorem w_order_judged (T : Txt K mg)
    (c_must_be_weighed : Cal P w K mg base (clOf K) "must_be_weighed" 6 ["folk", "weights"] F_must_be_weighed)
    (c_order_wrong : Cal P w K mg base (clOf K) "order_wrong" 4 ["folk", "weights", "thing"] F_order_wrong)
    (c_ring_wrong : Cal P w K mg base (clOf K) "ring_wrong" 3 ["folk", "weights", "thing"] F_ring_wrong) : Cal P w K mg base (clOf K) "order_judged" 7 ["folk", "weights", "paper"] F_order_judged := by
  have sc := sc_order_judged
  refine cal_of T.d_order_judged sc (by decide) fun f cdv A outer s H E hr => ?_
  have tk : Takes (cxOf (L2.CX P w) P w K mg base N_order_judged "order_judged" (defScope (top 42)) f cdv A outer s H E) (fun cls d _ H => E cls d H) := takes_of rfl rfl rfl rfl
  exact ss_cons (s_expr (d_cal c_must_be_weighed (hr.mono (by decide)) (passAt tk) (ae_cons (d_var 0) (ae_cons (d_var 1) ae_nil)))) (ss_cons (s_if (d_tw (w_or (d_tnot (d_tval (d_isi (m := "tuple") (by decide) rfl T.b_isinstance (d_var 2) (pe_bltn rfl T.b_tuple (by decide +kernel) rfl)))) (w_or (t_ne hr.units (d_callB (CallR.or' call_len_seq call_len_str) cd_len rfl T.b_len (by decide +kernel) (ap_cons (d_var 2) ap_nil)) d_int) (w_or1 (d_tnot (d_tval (d_isi (m := "str") (by decide) rfl T.b_isinstance (d_ix (d_var 2) d_int (fun _ _ => rfl)) (pe_bltn rfl T.b_str (by decide +kernel) rfl)))))))) (ss_one (s_ret (d_tup (ae_cons d_str ae_nil)))) ss_nil) (ss_cons (s_if (t_eq hr.units (d_ix (d_var 2) d_int (fun _ _ => rfl)) d_str) (ss_one (s_ret (d_cal c_order_wrong (hr.mono (by decide)) (passAt tk) (ae_cons (d_var 0) (ae_cons (d_var 1) (ae_cons (d_ix (d_var 2) d_int (fun _ _ => rfl)) ae_nil)))))) ss_nil) (ss_cons (s_if (t_eq hr.units (d_ix (d_var 2) d_int (fun _ _ => rfl)) d_str) (ss_one (s_ret (d_cal c_ring_wrong (hr.mono (by decide)) (passAt tk) (ae_cons (d_var 0) (ae_cons (d_var 1) (ae_cons (d_ix (d_var 2) d_int (fun _ _ => rfl)) ae_nil)))))) ss_nil) (ss_one (s_ret (d_tup (ae_cons d_str ae_nil)))))))
abbrev N_ring_among : List Str := ["folk", "weights", "some", "walk", "stronger"]
theorem sc_ring_among : FnScope N_ring_among ["folk", "weights", "some"] (defScope (top 43)) := ⟨rfl, rfl, rfl, by decide +kernel, rfl, by decide +kernel, by decide +kernel⟩
theorem w_ring_among (T : Txt K mg)
    (c_beaters : Cal P w K mg base (clOf K) "beaters" 3 ["folk", "weights", "some", "name"] F_beaters) : Cal P w K mg base (clOf K) "ring_among" 4 ["folk", "weights", "some"] F_ring_among := by
  have sc := sc_ring_among
  refine cal_of T.d_ring_among sc (by decide) fun f cdv A outer s H E hr => ?_
  have tk : Takes (cxOf (L2.CX P w) P w K mg base N_ring_among "ring_among" (defScope (top 43)) f cdv A outer s H E) (fun cls d _ H => E cls d H) := takes_of rfl rfl rfl rfl
  exact ss_cons (s_set (i := 3) sc.nd rfl (by first | exact Or.inl rfl | exact Or.inr rfl) (d_lst (ae_cons (d_ix (d_var 2) d_int (fun _ _ => rfl)) ae_nil))) (ss_cons (s_set (i := 4) sc.nd rfl (by first | exact Or.inl rfl | exact Or.inr rfl) (d_ix (d_cal c_beaters (hr.mono (by decide)) (passAt tk) (ae_cons (d_var 0) (ae_cons (d_var 1) (ae_cons (d_var 2) (ae_cons (d_ix (d_var 3) (d_neg d_int) (fun _ _ => rfl)) ae_nil))))) d_int (fun _ _ => rfl))) (ss_cons (s_while 10000 (passes_of rfl) (t_notIn hr.units (by rfl) (d_var 4) (d_var 3)) (ss_cons (s_expr (d_append (pv 3) (d_var 4))) (ss_one (s_set (i := 4) sc.nd rfl (by first | exact Or.inl rfl | exact Or.inr rfl) (d_ix (d_cal c_beaters (hr.mono (by decide)) (passAt tk) (ae_cons (d_var 0) (ae_cons (d_var 1) (ae_cons (d_var 2) (ae_cons (d_ix (d_var 3) (d_neg d_int) (fun _ _ => rfl)) ae_nil))))) d_int (fun _ _ => rfl)))))) (ss_one (s_ret (d_rev (d_slice (d_var 3) (dp_some (d_index (d_var 3) (d_var 4))) dp_none))))))
abbrev N_order_of : List Str := ["folk", "weights", "left", "found", "free", "name"]
theorem sc_order_of : FnScope N_order_of ["folk", "weights"] (defScope (top 44)) := ⟨rfl, rfl, rfl, by decide +kernel, rfl, by decide +kernel, by decide +kernel⟩
theorem w_order_of (T : Txt K mg)
    (c_must_be_weighed : Cal P w K mg base (clOf K) "must_be_weighed" 6 ["folk", "weights"] F_must_be_weighed)
    (c_beaters : Cal P w K mg base (clOf K) "beaters" 3 ["folk", "weights", "some", "name"] F_beaters)
    (c_ring_among : Cal P w K mg base (clOf K) "ring_among" 4 ["folk", "weights", "some"] F_ring_among) : Cal P w K mg base (clOf K) "order_of" 7 ["folk", "weights"] F_order_of_v3 := by
  have sc := sc_order_of
  refine cal_of T.d_order_of sc (by decide) fun f cdv A outer s H E hr => ?_
  have tk : Takes (cxOf (L2.CX P w) P w K mg base N_order_of "order_of" (defScope (top 44)) f cdv A outer s H E) (fun cls d _ H => E cls d H) := takes_of rfl rfl rfl rfl
  exact ss_cons (s_expr (d_cal c_must_be_weighed (hr.mono (by decide)) (passAt tk) (ae_cons (d_var 0) (ae_cons (d_var 1) ae_nil)))) (ss_cons (s_set (i := 2) sc.nd rfl (by first | exact Or.inl rfl | exact Or.inr rfl) (d_callB (CallR.or' cr_sortedI (cr_sortedD hr.units)) cd_sorted rfl T.b_sorted (by decide +kernel) (ap_cons (d_ix (d_var 0) d_int (fun _ _ => rfl)) ap_nil))) (ss_cons (s_set (i := 3) sc.nd rfl (by first | exact Or.inl rfl | exact Or.inr rfl) (d_lst ae_nil)) (ss_cons (s_while 10000 (passes_of rfl) (t_ne hr.units (d_var 2) (d_lst ae_nil)) (ss_cons (s_setLcO (i := 4) rfl sc.nd rfl rfl (sw_true rfl rfl rfl (by decide +kernel)) (own := [("name", 5)]) (pv 2) (blkOk_by (own := [("name", 5)]) (N := N_order_of) (sc := defScope (top 44)) (by decide +kernel)) (g_name 5) (by decide) (fun _ _ _ _ _ => pg_name (i := 5) sc.nd rfl (by first | exact Or.inl rfl | exact Or.inr rfl)) (fun _ _ _ _ _ => dts_one (t_eq hr.units (d_calP c_beaters (hr.mono (by decide)) passA0 (ap_cons (d_var 0) (ap_cons (d_var 1) (ap_cons (d_var 2) (ap_cons (d_var 5) ap_nil))))) (d_lst ae_nil))) (fun _ _ _ _ _ => d_var 5)) (ss_cons (s_if (t_eq hr.units (d_var 4) (d_lst ae_nil)) (ss_one (s_ret (d_tup (ae_cons d_str (ae_cons (d_calP c_ring_among (hr.mono (by decide)) (passAt tk) (ap_cons (d_var 0) (ap_cons (d_var 1) (ap_cons (d_var 2) ap_nil)))) ae_nil))))) ss_nil) (ss_cons (s_expr (d_append (pv 3) (d_ix (d_var 4) d_int (fun _ _ => rfl)))) (ss_one (s_expr (d_remove (pv 2) (d_ix (d_var 4) d_int (fun _ _ => rfl))))))))) (ss_one (s_ret (d_tup (ae_cons d_str (ae_cons (d_var 3) ae_nil))))))))
abbrev N_unbeaten : List Str := ["folk", "weights", "name"]
theorem sc_unbeaten : FnScope N_unbeaten ["folk", "weights"] (defScope (top 45)) := ⟨rfl, rfl, rfl, by decide +kernel, rfl, by decide +kernel, by decide +kernel⟩
theorem w_unbeaten (T : Txt K mg)
    (c_must_be_weighed : Cal P w K mg base (clOf K) "must_be_weighed" 6 ["folk", "weights"] F_must_be_weighed)
    (c_beaters : Cal P w K mg base (clOf K) "beaters" 3 ["folk", "weights", "some", "name"] F_beaters) : Cal P w K mg base (clOf K) "unbeaten" 7 ["folk", "weights"] F_unbeaten := by
  have sc := sc_unbeaten
  refine cal_of T.d_unbeaten sc (by decide) fun f cdv A outer s H E hr => ?_
  have tk : Takes (cxOf (L2.CX P w) P w K mg base N_unbeaten "unbeaten" (defScope (top 45)) f cdv A outer s H E) (fun cls d _ H => E cls d H) := takes_of rfl rfl rfl rfl
  exact ss_cons (s_expr (d_cal c_must_be_weighed (hr.mono (by decide)) (passAt tk) (ae_cons (d_var 0) (ae_cons (d_var 1) ae_nil)))) (ss_one (s_ret (d_lc rfl sc.nd (own := [("name", 2)]) (i_list (d_callB (CallR.or' cr_sortedI (cr_sortedD hr.units)) cd_sorted rfl T.b_sorted (by decide +kernel) (ap_cons (d_ix (d_var 0) d_int (fun _ _ => rfl)) ap_nil))) (blkOk_by (own := [("name", 2)]) (N := N_unbeaten) (sc := defScope (top 45)) (by decide +kernel)) (g_name 2) (by decide) (fun _ _ _ _ _ => pg_name (i := 2) sc.nd rfl (by first | exact Or.inl rfl | exact Or.inr rfl)) (fun _ _ _ _ _ => dts_one (t_eq hr.units (d_cal c_beaters (hr.mono (by decide)) passA0 (ae_cons (d_var 0) (ae_cons (d_var 1) (ae_cons (d_ix (d_var 0) d_int (fun _ _ => rfl)) (ae_cons (d_var 2) ae_nil))))) (d_lst ae_nil))) (fun _ _ _ _ _ => d_var 2))))
abbrev N_first_half : List Str := ["folk", "weights", "line", "total", "name", "ranking", "weight"]
theorem sc_first_half : FnScope N_first_half ["folk", "weights", "line"] (defScope (top 46)) := ⟨rfl, rfl, rfl, by decide +kernel, rfl, by decide +kernel, by decide +kernel⟩
theorem w_first_half (T : Txt K mg) : Cal P w K mg base (clOf K) "first_half" 1 ["folk", "weights", "line"] F_first_half := by
  have sc := sc_first_half
  refine cal_of T.d_first_half sc (by decide) fun f cdv A outer s H E hr => ?_
  have tk : Takes (cxOf (L2.CX P w) P w K mg base N_first_half "first_half" (defScope (top 46)) f cdv A outer s H E) (fun cls d _ H => E cls d H) := takes_of rfl rfl rfl rfl
  exact ss_cons (s_set (i := 3) sc.nd rfl (by first | exact Or.inl rfl | exact Or.inr rfl) d_int) (ss_one (s_for (passes_of rfl) rfl (i_list (d_var 2)) (pg_name (i := 4) sc.nd rfl (by first | exact Or.inl rfl | exact Or.inr rfl)) (g_name 4) (ss_cons (s_aug (i := 3) sc.nd rfl (by first | exact Or.inl rfl | exact Or.inr rfl) (d_callB (cr_sum rfl) cd_sum rfl T.b_sum (by decide +kernel) (ap_cons (d_lc rfl sc.nd (own := [("ranking", 5), ("weight", 6)]) (i_zip rfl T.b_zip (ae_cons (d_var 0) (ae_cons (d_var 1) ae_nil)) (fun h => pi_zip (by rfl) T.b_zip h)) (blkOk_by (own := [("ranking", 5), ("weight", 6)]) (N := N_first_half) (sc := defScope (top 46)) (by decide +kernel)) (g_tup (n := 2) (g_cons (g_name 5) (g_cons (g_name 6) g_nil))) (by decide) (fun _ _ _ _ _ => pg_tup rfl (pgs_cons (pg_name (i := 5) sc.nd rfl (by first | exact Or.inl rfl | exact Or.inr rfl)) (pgs_cons (pg_name (i := 6) sc.nd rfl (by first | exact Or.inl rfl | exact Or.inr rfl)) pgs_nil))) (fun _ _ _ _ _ => dts_one (t_eq hr.units (d_ix (d_var 5) d_int (fun _ _ => rfl)) (d_var 4))) (fun _ _ _ _ _ => d_var 6)) ap_nil)) ip_add) (ss_one (s_if (t_ge (d_mul d_int (d_var 3)) (d_callB (cr_sum rfl) cd_sum rfl T.b_sum (by decide +kernel) (ap_cons (d_var 1) ap_nil))) (ss_one (s_ret (d_var 4))) ss_nil)))))
abbrev N_middle : List Str := ["folk", "weights", "line"]
theorem sc_middle : FnScope N_middle ["folk", "weights", "line"] (defScope (top 47)) := ⟨rfl, rfl, rfl, by decide +kernel, rfl, by decide +kernel, by decide +kernel⟩
theorem w_middle (T : Txt K mg)
    (c_must_be_weighed : Cal P w K mg base (clOf K) "must_be_weighed" 6 ["folk", "weights"] F_must_be_weighed)
    (c_must_fall : Cal P w K mg base (clOf K) "must_fall" 6 ["folk", "line"] F_must_fall_v2)
    (c_first_half : Cal P w K mg base (clOf K) "first_half" 1 ["folk", "weights", "line"] F_first_half) : Cal P w K mg base (clOf K) "middle" 7 ["folk", "weights", "line"] F_middle_v2 := by
  have sc := sc_middle
  refine cal_of T.d_middle sc (by decide) fun f cdv A outer s H E hr => ?_
  have tk : Takes (cxOf (L2.CX P w) P w K mg base N_middle "middle" (defScope (top 47)) f cdv A outer s H E) (fun cls d _ H => E cls d H) := takes_of rfl rfl rfl rfl
  exact ss_cons (s_expr (d_cal c_must_be_weighed (hr.mono (by decide)) (passAt tk) (ae_cons (d_var 0) (ae_cons (d_var 1) ae_nil)))) (ss_cons (s_expr (d_cal c_must_fall (hr.mono (by decide)) (passAt tk) (ae_cons (d_var 0) (ae_cons (d_var 2) ae_nil)))) (ss_one (s_ret (d_tup (ae_cons (d_cal c_first_half (hr.mono (by decide)) (passAt tk) (ae_cons (d_var 0) (ae_cons (d_var 1) (ae_cons (d_var 2) ae_nil)))) (ae_cons (d_cal c_first_half (hr.mono (by decide)) (passAt tk) (ae_cons (d_var 0) (ae_cons (d_var 1) (ae_cons (d_rev (d_var 2)) ae_nil)))) ae_nil))))))
abbrev N_paid : List Str := ["folk", "weights", "names", "total", "ranking", "weight", "name"]
theorem sc_paid : FnScope N_paid ["folk", "weights", "names"] (defScope (top 49)) := ⟨rfl, rfl, rfl, by decide +kernel, rfl, by decide +kernel, by decide +kernel⟩
theorem w_paid (T : Txt K mg) : Cal P w K mg base (clOf K) "paid" 1 ["folk", "weights", "names"] F_paid := by
  have sc := sc_paid
  refine cal_of T.d_paid sc (by decide) fun f cdv A outer s H E hr => ?_
  have tk : Takes (cxOf (L2.CX P w) P w K mg base N_paid "paid" (defScope (top 49)) f cdv A outer s H E) (fun cls d _ H => E cls d H) := takes_of rfl rfl rfl rfl
  exact ss_cons (s_set (i := 3) sc.nd rfl (by first | exact Or.inl rfl | exact Or.inr rfl) d_int) (ss_cons (s_for (passes_of rfl) rfl (i_zip rfl T.b_zip (ae_cons (d_var 0) (ae_cons (d_var 1) ae_nil)) (fun h => pi_zip (by rfl) T.b_zip h)) (pg_tup rfl (pgs_cons (pg_name (i := 4) sc.nd rfl (by first | exact Or.inl rfl | exact Or.inr rfl)) (pgs_cons (pg_name (i := 5) sc.nd rfl (by first | exact Or.inl rfl | exact Or.inr rfl)) pgs_nil))) (g_tup (n := 2) (g_cons (g_name 4) (g_cons (g_name 5) g_nil))) (ss_one (s_aug (i := 3) sc.nd rfl (by first | exact Or.inl rfl | exact Or.inr rfl) (d_mul (d_var 5) (d_callB (CallR.or' (cr_min rfl) (call_min2 rfl)) cd_min rfl T.b_min (by decide +kernel) (ap_cons (d_lc rfl sc.nd (own := [("name", 6)]) (i_list (d_var 2)) (blkOk_by (own := [("name", 6)]) (N := N_paid) (sc := defScope (top 49)) (by decide +kernel)) (g_name 6) (by decide) (fun _ _ _ _ _ => pg_name (i := 6) sc.nd rfl (by first | exact Or.inl rfl | exact Or.inr rfl)) (fun _ _ _ _ _ => dts_nil) (fun _ _ _ _ _ => d_index (d_var 4) (d_var 6))) ap_nil))) ip_add))) (ss_one (s_ret (d_var 3))))
abbrev N_cost : List Str := ["folk", "weights", "names", "name"]
theorem sc_cost : FnScope N_cost ["folk", "weights", "names"] (defScope (top 50)) := ⟨rfl, rfl, rfl, by decide +kernel, rfl, by decide +kernel, by decide +kernel⟩
theorem w_cost (T : Txt K mg)
    (c_are_unlike_names : Cal P w K mg base (clOf K) "are_unlike_names" 2 ["thing"] F_are_unlike_names)
    (c_must_be_weighed : Cal P w K mg base (clOf K) "must_be_weighed" 6 ["folk", "weights"] F_must_be_weighed)
    (c_paid : Cal P w K mg base (clOf K) "paid" 1 ["folk", "weights", "names"] F_paid) : Cal P w K mg base (clOf K) "cost" 7 ["folk", "weights", "names"] F_cost := by
  have sc := sc_cost
  refine cal_of T.d_cost sc (by decide) fun f cdv A outer s H E hr => ?_
  have tk : Takes (cxOf (L2.CX P w) P w K mg base N_cost "cost" (defScope (top 50)) f cdv A outer s H E) (fun cls d _ H => E cls d H) := takes_of rfl rfl rfl rfl
  exact ss_cons (s_expr (d_cal c_must_be_weighed (hr.mono (by decide)) (passAt tk) (ae_cons (d_var 0) (ae_cons (d_var 1) ae_nil)))) (ss_cons (s_if (d_tw (w_or (d_tnot (d_tval (d_cal c_are_unlike_names (hr.mono (by decide)) (passAt tk) (ae_cons (d_var 2) ae_nil)))) (w_or (t_lt (d_callB (CallR.or' call_len_seq call_len_str) cd_len rfl T.b_len (by decide +kernel) (ap_cons (d_var 2) ap_nil)) d_int) (w_or1 (d_tnot (d_tval (d_callB (cr_all rfl) cd_all rfl T.b_all (by decide +kernel) (ap_cons (d_lc rfl sc.nd (own := [("name", 3)]) (i_list (d_var 2)) (blkOk_by (own := [("name", 3)]) (N := N_cost) (sc := defScope (top 50)) (by decide +kernel)) (g_name 3) (by decide) (fun _ _ _ _ _ => pg_name (i := 3) sc.nd rfl (by first | exact Or.inl rfl | exact Or.inr rfl)) (fun _ _ _ _ _ => dts_nil) (fun _ _ _ _ _ => d_in hr.units (by rfl) (d_var 3) (d_ix (d_var 0) d_int (fun _ _ => rfl)))) ap_nil)))))))) (ss_one (s_raise (n := "NoNames") rfl tk rfl ((T.exc.each "NoNames" (by decide)).x (by decide) (by decide)) (T.exc.each "NoNames" (by decide)).g (T.exc.each "NoNames" (by decide)).kp (T.exc.each "NoNames" (by decide)).b (T.exc.each "NoNames" (by decide)).ty rfl)) ss_nil) (ss_one (s_ret (d_cal c_paid (hr.mono (by decide)) (passAt tk) (ae_cons (d_var 0) (ae_cons (d_var 1) (ae_cons (d_var 2) ae_nil)))))))
abbrev N_gain : List Str := ["folk", "weights", "one", "other", "total", "ranking", "weight"]
theorem sc_gain : FnScope N_gain ["folk", "weights", "one", "other"] (defScope (top 51)) := ⟨rfl, rfl, rfl, by decide +kernel, rfl, by decide +kernel, by decide +kernel⟩
theorem w_gain (T : Txt K mg) : Cal P w K mg base (clOf K) "gain" 1 ["folk", "weights", "one", "other"] F_gain := by
  have sc := sc_gain
  refine cal_of T.d_gain sc (by decide) fun f cdv A outer s H E hr => ?_
  have tk : Takes (cxOf (L2.CX P w) P w K mg base N_gain "gain" (defScope (top 51)) f cdv A outer s H E) (fun cls d _ H => E cls d H) := takes_of rfl rfl rfl rfl
  exact ss_cons (s_set (i := 4) sc.nd rfl (by first | exact Or.inl rfl | exact Or.inr rfl) d_int) (ss_cons (s_for (passes_of rfl) rfl (i_zip rfl T.b_zip (ae_cons (d_var 0) (ae_cons (d_var 1) ae_nil)) (fun h => pi_zip (by rfl) T.b_zip h)) (pg_tup rfl (pgs_cons (pg_name (i := 5) sc.nd rfl (by first | exact Or.inl rfl | exact Or.inr rfl)) (pgs_cons (pg_name (i := 6) sc.nd rfl (by first | exact Or.inl rfl | exact Or.inr rfl)) pgs_nil))) (g_tup (n := 2) (g_cons (g_name 5) (g_cons (g_name 6) g_nil))) (ss_one (s_aug (i := 4) sc.nd rfl (by first | exact Or.inl rfl | exact Or.inr rfl) (d_mul (d_var 6) (d_callB (CallR.or' (cr_max rfl) (call_max2 rfl)) cd_max rfl T.b_max (by decide +kernel) (ap_cons d_int (ap_cons (d_sub (d_index (d_var 5) (d_var 2)) (d_index (d_var 5) (d_var 3))) ap_nil)))) ip_add))) (ss_one (s_ret (d_var 4))))
abbrev N_bounds : List Str := ["folk", "weights", "line", "ahead_of", "j", "at", "k"]
theorem sc_bounds : FnScope N_bounds ["folk", "weights", "line", "ahead_of", "j", "at"] (defScope (top 52)) := ⟨rfl, rfl, rfl, by decide +kernel, rfl, by decide +kernel, by decide +kernel⟩
theorem w_bounds (T : Txt K mg)
    (c_paid : Cal P w K mg base (clOf K) "paid" 1 ["folk", "weights", "names"] F_paid)
    (c_gain : Cal P w K mg base (clOf K) "gain" 1 ["folk", "weights", "one", "other"] F_gain) : Cal P w K mg base (clOf K) "bounds" 2 ["folk", "weights", "line", "ahead_of", "j", "at"] F_bounds := by
  have sc := sc_bounds
  refine cal_of T.d_bounds sc (by decide) fun f cdv A outer s H E hr => ?_
  have tk : Takes (cxOf (L2.CX P w) P w K mg base N_bounds "bounds" (defScope (top 52)) f cdv A outer s H E) (fun cls d _ H => E cls d H) := takes_of rfl rfl rfl rfl
  exact ss_cons (s_if (t_eq hr.units (d_var 4) d_int) (ss_one (s_ret (d_lst (ae_cons (d_cal c_paid (hr.mono (by decide)) (passAt tk) (ae_cons (d_var 0) (ae_cons (d_var 1) (ae_cons (d_lst (ae_cons (d_ix (d_var 2) (d_var 5) (fun _ _ => rfl)) ae_nil)) ae_nil)))) ae_nil)))) ss_nil) (ss_one (s_ret (d_lc rfl sc.nd (own := [("k", 6)]) (i_range2 rfl T.b_range (ap_cons (d_sub (d_var 4) d_int) (ap_cons (d_var 5) ap_nil))) (blkOk_by (own := [("k", 6)]) (N := N_bounds) (sc := defScope (top 52)) (by decide +kernel)) (g_name 6) (by decide) (fun _ _ _ _ _ => pg_name (i := 6) sc.nd rfl (by first | exact Or.inl rfl | exact Or.inr rfl)) (fun _ _ _ _ _ => dts_nil) (fun _ _ _ _ _ => d_sub (d_ix (d_var 3) (d_var 6) (fun _ _ => rfl)) (d_cal c_gain (hr.mono (by decide)) passA0 (ae_cons (d_var 0) (ae_cons (d_var 1) (ae_cons (d_ix (d_var 2) (d_var 6) (fun _ _ => rfl)) (ae_cons (d_ix (d_var 2) (d_var 5) (fun _ _ => rfl)) ae_nil)))))))))
abbrev N_filled : List Str := ["folk", "weights", "line", "many", "table", "j", "row", "at"]
theorem sc_filled : FnScope N_filled ["folk", "weights", "line", "many"] (defScope (top 53)) := ⟨rfl, rfl, rfl, by decide +kernel, rfl, by decide +kernel, by decide +kernel⟩
theorem w_filled (T : Txt K mg)
    (c_bounds : Cal P w K mg base (clOf K) "bounds" 2 ["folk", "weights", "line", "ahead_of", "j", "at"] F_bounds) : Cal P w K mg base (clOf K) "filled" 3 ["folk", "weights", "line", "many"] F_filled := by
  have sc := sc_filled
  refine cal_of T.d_filled sc (by decide) fun f cdv A outer s H E hr => ?_
  have tk : Takes (cxOf (L2.CX P w) P w K mg base N_filled "filled" (defScope (top 53)) f cdv A outer s H E) (fun cls d _ H => E cls d H) := takes_of rfl rfl rfl rfl
  exact ss_cons (s_set (i := 4) sc.nd rfl (by first | exact Or.inl rfl | exact Or.inr rfl) (d_lst ae_nil)) (ss_cons (s_for (passes_of rfl) rfl (i_range1 rfl T.b_range (ap_cons (d_var 3) ap_nil)) (pg_name (i := 5) sc.nd rfl (by first | exact Or.inl rfl | exact Or.inr rfl)) (g_name 5) (ss_cons (s_setLc (i := 6) rfl sc.nd rfl rfl (sw_true rfl rfl rfl (by decide +kernel)) (own := [("at", 7)]) (i_range1 rfl T.b_range (ap_cons (d_var 5) ap_nil)) (blkOk_by (own := [("at", 7)]) (N := N_filled) (sc := defScope (top 53)) (by decide +kernel)) (g_name 7) (by decide) (fun _ _ _ _ _ => pg_name (i := 7) sc.nd rfl (by first | exact Or.inl rfl | exact Or.inr rfl)) (fun _ _ _ _ _ => dts_nil) (fun _ _ _ _ _ => d_non)) (ss_cons (s_for (passes_of rfl) rfl (i_range2 rfl T.b_range (ap_cons (d_var 5) (ap_cons (d_callB (CallR.or' call_len_seq call_len_str) cd_len rfl T.b_len (by decide +kernel) (ap_cons (d_var 2) ap_nil)) ap_nil))) (pg_name (i := 7) sc.nd rfl (by first | exact Or.inl rfl | exact Or.inr rfl)) (g_name 7) (ss_one (s_expr (d_append (pv 6) (d_callB (CallR.or' (cr_min rfl) (call_min2 rfl)) cd_min rfl T.b_min (by decide +kernel) (ap_cons (d_cal c_bounds (hr.mono (by decide)) (passAt tk) (ae_cons (d_var 0) (ae_cons (d_var 1) (ae_cons (d_var 2) (ae_cons (d_ix (d_add (d_var 4) (d_lst (ae_cons (d_lst ae_nil) ae_nil))) (d_sub (d_var 5) d_int) (fun _ _ => rfl)) (ae_cons (d_var 5) (ae_cons (d_var 7) ae_nil))))))) ap_nil)))))) (ss_one (s_expr (d_append (pv 4) (d_var 6))))))) (ss_one (s_ret (d_var 4))))
abbrev N_must_be_asked : List Str := ["folk", "weights", "line", "many"]
theorem sc_must_be_asked : FnScope N_must_be_asked ["folk", "weights", "line", "many"] (defScope (top 54)) := ⟨rfl, rfl, rfl, by decide +kernel, rfl, by decide +kernel, by decide +kernel⟩
theorem w_must_be_asked (T : Txt K mg)
    (c_must_be_weighed : Cal P w K mg base (clOf K) "must_be_weighed" 6 ["folk", "weights"] F_must_be_weighed)
    (c_must_fall : Cal P w K mg base (clOf K) "must_fall" 6 ["folk", "line"] F_must_fall_v2) : Cal P w K mg base (clOf K) "must_be_asked" 7 ["folk", "weights", "line", "many"] F_must_be_asked_v2 := by
  have sc := sc_must_be_asked
  refine cal_of T.d_must_be_asked sc (by decide) fun f cdv A outer s H E hr => ?_
  have tk : Takes (cxOf (L2.CX P w) P w K mg base N_must_be_asked "must_be_asked" (defScope (top 54)) f cdv A outer s H E) (fun cls d _ H => E cls d H) := takes_of rfl rfl rfl rfl
  exact ss_cons (s_expr (d_cal c_must_be_weighed (hr.mono (by decide)) (passAt tk) (ae_cons (d_var 0) (ae_cons (d_var 1) ae_nil)))) (ss_cons (s_expr (d_cal c_must_fall (hr.mono (by decide)) (passAt tk) (ae_cons (d_var 0) (ae_cons (d_var 2) ae_nil)))) (ss_one (s_if (d_tw (w_or (t_lt (d_var 3) d_int) (w_or1 (t_gt (d_var 3) (d_callB (CallR.or' call_len_seq call_len_str) cd_len rfl T.b_len (by decide +kernel) (ap_cons (d_var 2) ap_nil)))))) (ss_one (s_raise (n := "NoNumber") rfl tk rfl ((T.exc.each "NoNumber" (by decide)).x (by decide) (by decide)) (T.exc.each "NoNumber" (by decide)).g (T.exc.each "NoNumber" (by decide)).kp (T.exc.each "NoNumber" (by decide)).b (T.exc.each "NoNumber" (by decide)).ty rfl)) ss_nil)))
abbrev N_last_of : List Str := ["row", "numbers", "number"]
theorem sc_last_of : FnScope N_last_of ["row"] (defScope (top 55)) := ⟨rfl, rfl, rfl, by decide +kernel, rfl, by decide +kernel, by decide +kernel⟩
theorem w_last_of (T : Txt K mg) : Cal P w K mg base (clOf K) "last_of" 1 ["row"] F_last_of := by
  have sc := sc_last_of
  refine cal_of T.d_last_of sc (by decide) fun f cdv A outer s H E hr => ?_
  have tk : Takes (cxOf (L2.CX P w) P w K mg base N_last_of "last_of" (defScope (top 55)) f cdv A outer s H E) (fun cls d _ H => E cls d H) := takes_of rfl rfl rfl rfl
  exact ss_cons (s_setLc (i := 1) rfl sc.nd rfl rfl (sw_true rfl rfl rfl (by decide +kernel)) (own := [("number", 2)]) (i_list (d_var 0)) (blkOk_by (own := [("number", 2)]) (N := N_last_of) (sc := defScope (top 55)) (by decide +kernel)) (g_name 2) (by decide) (fun _ _ _ _ _ => pg_name (i := 2) sc.nd rfl (by first | exact Or.inl rfl | exact Or.inr rfl)) (fun _ _ _ _ _ => dts_one (t_notN (d_var 2))) (fun _ _ _ _ _ => d_var 2)) (ss_one (s_ret (d_index (d_var 0) (d_callB (CallR.or' (cr_min rfl) (call_min2 rfl)) cd_min rfl T.b_min (by decide +kernel) (ap_cons (d_var 1) ap_nil)))))
abbrev N_few : List Str := ["folk", "weights", "line", "many", "table", "at", "price", "names", "j", "some"]
theorem sc_few : FnScope N_few ["folk", "weights", "line", "many"] (defScope (top 56)) := ⟨rfl, rfl, rfl, by decide +kernel, rfl, by decide +kernel, by decide +kernel⟩
theorem w_few (T : Txt K mg)
    (c_bounds : Cal P w K mg base (clOf K) "bounds" 2 ["folk", "weights", "line", "ahead_of", "j", "at"] F_bounds)
    (c_filled : Cal P w K mg base (clOf K) "filled" 3 ["folk", "weights", "line", "many"] F_filled)
    (c_must_be_asked : Cal P w K mg base (clOf K) "must_be_asked" 7 ["folk", "weights", "line", "many"] F_must_be_asked_v2)
    (c_last_of : Cal P w K mg base (clOf K) "last_of" 1 ["row"] F_last_of) : Cal P w K mg base (clOf K) "few" 8 ["folk", "weights", "line", "many"] F_few_v2 := by
  have sc := sc_few
  refine cal_of T.d_few sc (by decide) fun f cdv A outer s H E hr => ?_
  have tk : Takes (cxOf (L2.CX P w) P w K mg base N_few "few" (defScope (top 56)) f cdv A outer s H E) (fun cls d _ H => E cls d H) := takes_of rfl rfl rfl rfl
  exact ss_cons (s_expr (d_cal c_must_be_asked (hr.mono (by decide)) (passAt tk) (ae_cons (d_var 0) (ae_cons (d_var 1) (ae_cons (d_var 2) (ae_cons (d_var 3) ae_nil)))))) (ss_cons (s_set (i := 4) sc.nd rfl (by first | exact Or.inl rfl | exact Or.inr rfl) (d_cal c_filled (hr.mono (by decide)) (passAt tk) (ae_cons (d_var 0) (ae_cons (d_var 1) (ae_cons (d_var 2) (ae_cons (d_var 3) ae_nil)))))) (ss_cons (s_set (i := 5) sc.nd rfl (by first | exact Or.inl rfl | exact Or.inr rfl) (d_cal c_last_of (hr.mono (by decide)) (passAt tk) (ae_cons (d_ix (d_var 4) (d_neg d_int) (fun _ _ => rfl)) ae_nil))) (ss_cons (s_set (i := 6) sc.nd rfl (by first | exact Or.inl rfl | exact Or.inr rfl) (d_ix (d_ix (d_var 4) (d_neg d_int) (fun _ _ => rfl)) (d_var 5) (fun _ _ => rfl))) (ss_cons (s_set (i := 7) sc.nd rfl (by first | exact Or.inl rfl | exact Or.inr rfl) (d_lst (ae_cons (d_ix (d_var 2) (d_var 5) (fun _ _ => rfl)) ae_nil))) (ss_cons (s_for (passes_of rfl) rfl (i_range3 rfl T.b_range (ap_cons (d_sub (d_var 3) d_int) (ap_cons d_int (ap_cons (d_neg d_int) ap_nil)))) (pg_name (i := 8) sc.nd rfl (by first | exact Or.inl rfl | exact Or.inr rfl)) (g_name 8) (ss_cons (s_set (i := 9) sc.nd rfl (by first | exact Or.inl rfl | exact Or.inr rfl) (d_cal c_bounds (hr.mono (by decide)) (passAt tk) (ae_cons (d_var 0) (ae_cons (d_var 1) (ae_cons (d_var 2) (ae_cons (d_ix (d_var 4) (d_sub (d_var 8) d_int) (fun _ _ => rfl)) (ae_cons (d_var 8) (ae_cons (d_var 5) ae_nil)))))))) (ss_cons (s_set (i := 5) sc.nd rfl (by first | exact Or.inl rfl | exact Or.inr rfl) (d_add (d_sub (d_var 8) d_int) (d_index (d_var 9) (d_ix (d_ix (d_var 4) (d_var 8) (fun _ _ => rfl)) (d_var 5) (fun _ _ => rfl))))) (ss_one (s_set (i := 7) sc.nd rfl (by first | exact Or.inl rfl | exact Or.inr rfl) (d_add (d_lst (ae_cons (d_ix (d_var 2) (d_var 5) (fun _ _ => rfl)) ae_nil)) (d_var 7))))))) (ss_one (s_ret (d_tup (ae_cons (d_var 6) (ae_cons (d_var 7) (ae_cons (d_var 4) ae_nil)))))))))))
abbrev N_are_along : List Str := ["line", "many", "thing", "places", "name"]
theorem sc_are_along : FnScope N_are_along ["line", "many", "thing"] (defScope (top 57)) := ⟨rfl, rfl, rfl, by decide +kernel, rfl, by decide +kernel, by decide +kernel⟩
theorem w_are_along (T : Txt K mg)
    (c_are_unlike_names : Cal P w K mg base (clOf K) "are_unlike_names" 2 ["thing"] F_are_unlike_names) : Cal P w K mg base (clOf K) "are_along" 3 ["line", "many", "thing"] F_are_along := by
  have sc := sc_are_along
  refine cal_of T.d_are_along sc (by decide) fun f cdv A outer s H E hr => ?_
  have tk : Takes (cxOf (L2.CX P w) P w K mg base N_are_along "are_along" (defScope (top 57)) f cdv A outer s H E) (fun cls d _ H => E cls d H) := takes_of rfl rfl rfl rfl
  exact ss_cons (s_if (d_tw (w_or (d_tnot (d_tval (d_cal c_are_unlike_names (hr.mono (by decide)) (passAt tk) (ae_cons (d_var 2) ae_nil)))) (w_or (t_ne hr.units (d_callB (CallR.or' call_len_seq call_len_str) cd_len rfl T.b_len (by decide +kernel) (ap_cons (d_var 2) ap_nil)) (d_var 1)) (w_or1 (d_tnot (d_tval (d_callB (cr_all rfl) cd_all rfl T.b_all (by decide +kernel) (ap_cons (d_lc rfl sc.nd (own := [("name", 4)]) (i_list (d_var 2)) (blkOk_by (own := [("name", 4)]) (N := N_are_along) (sc := defScope (top 57)) (by decide +kernel)) (g_name 4) (by decide) (fun _ _ _ _ _ => pg_name (i := 4) sc.nd rfl (by first | exact Or.inl rfl | exact Or.inr rfl)) (fun _ _ _ _ _ => dts_nil) (fun _ _ _ _ _ => d_in hr.units (by rfl) (d_var 4) (d_var 0))) ap_nil)))))))) (ss_one (s_ret d_bl)) ss_nil) (ss_cons (s_setLc (i := 3) rfl sc.nd rfl rfl (sw_true rfl rfl rfl (by decide +kernel)) (own := [("name", 4)]) (i_list (d_var 2)) (blkOk_by (own := [("name", 4)]) (N := N_are_along) (sc := defScope (top 57)) (by decide +kernel)) (g_name 4) (by decide) (fun _ _ _ _ _ => pg_name (i := 4) sc.nd rfl (by first | exact Or.inl rfl | exact Or.inr rfl)) (fun _ _ _ _ _ => dts_nil) (fun _ _ _ _ _ => d_index (d_var 0) (d_var 4))) (ss_one (s_ret (d_eq hr.units (d_var 3) (d_callB (CallR.or' cr_sortedI (cr_sortedD hr.units)) cd_sorted rfl T.b_sorted (by decide +kernel) (ap_cons (d_var 3) ap_nil))))))
abbrev N_is_row : List Str := ["j", "wide", "thing", "number"]
theorem sc_is_row : FnScope N_is_row ["j", "wide", "thing"] (defScope (top 58)) := ⟨rfl, rfl, rfl, by decide +kernel, rfl, by decide +kernel, by decide +kernel⟩
theorem w_is_row (T : Txt K mg)
    (c_is_number : Cal P w K mg base (clOf K) "is_number" 1 ["thing"] F_is_number) : Cal P w K mg base (clOf K) "is_row" 2 ["j", "wide", "thing"] F_is_row := by
  have sc := sc_is_row
  refine cal_of T.d_is_row sc (by decide) fun f cdv A outer s H E hr => ?_
  have tk : Takes (cxOf (L2.CX P w) P w K mg base N_is_row "is_row" (defScope (top 58)) f cdv A outer s H E) (fun cls d _ H => E cls d H) := takes_of rfl rfl rfl rfl
  exact ss_cons (s_if (d_tw (w_or (d_tnot (d_tval (d_isi (m := "list") (by decide) rfl T.b_isinstance (d_var 2) (pe_bltn rfl T.b_list (by decide +kernel) rfl)))) (w_or1 (t_ne hr.units (d_callB (CallR.or' call_len_seq call_len_str) cd_len rfl T.b_len (by decide +kernel) (ap_cons (d_var 2) ap_nil)) (d_var 1))))) (ss_one (s_ret d_bl)) ss_nil) (ss_one (s_ret (v_and (d_callB (cr_all rfl) cd_all rfl T.b_all (by decide +kernel) (ap_cons (d_lc rfl sc.nd (own := [("number", 3)]) (i_list (d_slice (d_var 2) dp_none (dp_some (d_var 0)))) (blkOk_by (own := [("number", 3)]) (N := N_is_row) (sc := defScope (top 58)) (by decide +kernel)) (g_name 3) (by decide) (fun _ _ _ _ _ => pg_name (i := 3) sc.nd rfl (by first | exact Or.inl rfl | exact Or.inr rfl)) (fun _ _ _ _ _ => dts_nil) (fun _ _ _ _ _ => d_isN (d_var 3))) ap_nil)) (v_one (d_callB (cr_all rfl) cd_all rfl T.b_all (by decide +kernel) (ap_cons (d_lc rfl sc.nd (own := [("number", 3)]) (i_list (d_slice (d_var 2) (dp_some (d_var 0)) dp_none)) (blkOk_by (own := [("number", 3)]) (N := N_is_row) (sc := defScope (top 58)) (by decide +kernel)) (g_name 3) (by decide) (fun _ _ _ _ _ => pg_name (i := 3) sc.nd rfl (by first | exact Or.inl rfl | exact Or.inr rfl)) (fun _ _ _ _ _ => dts_nil) (fun _ _ _ _ _ => d_cal c_is_number (hr.mono (by decide)) passA0 (ae_cons (d_var 3) ae_nil))) ap_nil))))))
abbrev N_is_table : List Str := ["many", "wide", "thing", "j", "row"]
theorem sc_is_table : FnScope N_is_table ["many", "wide", "thing"] (defScope (top 59)) := ⟨rfl, rfl, rfl, by decide +kernel, rfl, by decide +kernel, by decide +kernel⟩
theorem w_is_table (T : Txt K mg)
    (c_is_row : Cal P w K mg base (clOf K) "is_row" 2 ["j", "wide", "thing"] F_is_row) : Cal P w K mg base (clOf K) "is_table" 3 ["many", "wide", "thing"] F_is_table := by
  have sc := sc_is_table
  refine cal_of T.d_is_table sc (by decide) fun f cdv A outer s H E hr => ?_
  have tk : Takes (cxOf (L2.CX P w) P w K mg base N_is_table "is_table" (defScope (top 59)) f cdv A outer s H E) (fun cls d _ H => E cls d H) := takes_of rfl rfl rfl rfl
  exact ss_cons (s_if (d_tw (w_or (d_tnot (d_tval (d_isi (m := "list") (by decide) rfl T.b_isinstance (d_var 2) (pe_bltn rfl T.b_list (by decide +kernel) rfl)))) (w_or1 (t_ne hr.units (d_callB (CallR.or' call_len_seq call_len_str) cd_len rfl T.b_len (by decide +kernel) (ap_cons (d_var 2) ap_nil)) (d_var 0))))) (ss_one (s_ret d_bl)) ss_nil) (ss_one (s_ret (d_callB (cr_all rfl) cd_all rfl T.b_all (by decide +kernel) (ap_cons (d_lc rfl sc.nd (own := [("j", 3), ("row", 4)]) (i_enum rfl T.b_enumerate (ae_cons (d_var 2) ae_nil)) (blkOk_by (own := [("j", 3), ("row", 4)]) (N := N_is_table) (sc := defScope (top 59)) (by decide +kernel)) (g_tup (n := 2) (g_cons (g_name 3) (g_cons (g_name 4) g_nil))) (by decide) (fun _ _ _ _ _ => pg_tup rfl (pgs_cons (pg_name (i := 3) sc.nd rfl (by first | exact Or.inl rfl | exact Or.inr rfl)) (pgs_cons (pg_name (i := 4) sc.nd rfl (by first | exact Or.inl rfl | exact Or.inr rfl)) pgs_nil))) (fun _ _ _ _ _ => dts_nil) (fun _ _ _ _ _ => d_cal c_is_row (hr.mono (by decide)) passA0 (ae_cons (d_var 3) (ae_cons (d_var 1) (ae_cons (d_var 4) ae_nil))))) ap_nil))))
abbrev N_table_wrong : List Str := ["folk", "weights", "line", "price", "table", "j", "row", "at", "number"]
theorem sc_table_wrong : FnScope N_table_wrong ["folk", "weights", "line", "price", "table"] (defScope (top 60)) := ⟨rfl, rfl, rfl, by decide +kernel, rfl, by decide +kernel, by decide +kernel⟩
theorem w_table_wrong (T : Txt K mg)
    (c_bounds : Cal P w K mg base (clOf K) "bounds" 2 ["folk", "weights", "line", "ahead_of", "j", "at"] F_bounds) : Cal P w K mg base (clOf K) "table_wrong" 3 ["folk", "weights", "line", "price", "table"] F_table_wrong := by
  have sc := sc_table_wrong
  refine cal_of T.d_table_wrong sc (by decide) fun f cdv A outer s H E hr => ?_
  have tk : Takes (cxOf (L2.CX P w) P w K mg base N_table_wrong "table_wrong" (defScope (top 60)) f cdv A outer s H E) (fun cls d _ H => E cls d H) := takes_of rfl rfl rfl rfl
  exact ss_cons (s_for (passes_of rfl) rfl (i_enum rfl T.b_enumerate (ae_cons (d_var 4) ae_nil)) (pg_tup rfl (pgs_cons (pg_name (i := 5) sc.nd rfl (by first | exact Or.inl rfl | exact Or.inr rfl)) (pgs_cons (pg_name (i := 6) sc.nd rfl (by first | exact Or.inl rfl | exact Or.inr rfl)) pgs_nil))) (g_tup (n := 2) (g_cons (g_name 5) (g_cons (g_name 6) g_nil))) (ss_one (s_for (passes_of rfl) rfl (i_range2 rfl T.b_range (ap_cons (d_var 5) (ap_cons (d_callB (CallR.or' call_len_seq call_len_str) cd_len rfl T.b_len (by decide +kernel) (ap_cons (d_var 2) ap_nil)) ap_nil))) (pg_name (i := 7) sc.nd rfl (by first | exact Or.inl rfl | exact Or.inr rfl)) (g_name 7) (ss_one (s_if (t_gt (d_ix (d_var 6) (d_var 7) (fun _ _ => rfl)) (d_callB (CallR.or' (cr_min rfl) (call_min2 rfl)) cd_min rfl T.b_min (by decide +kernel) (ap_cons (d_cal c_bounds (hr.mono (by decide)) (passAt tk) (ae_cons (d_var 0) (ae_cons (d_var 1) (ae_cons (d_var 2) (ae_cons (d_ix (d_add (d_slice (d_var 4) dp_none (dp_some (d_var 5))) (d_lst (ae_cons (d_lst ae_nil) ae_nil))) (d_sub (d_var 5) d_int) (fun _ _ => rfl)) (ae_cons (d_var 5) (ae_cons (d_var 7) ae_nil))))))) ap_nil))) (ss_one (s_ret (d_tup (ae_cons d_str (ae_cons (d_var 5) (ae_cons (d_var 7) ae_nil)))))) ss_nil))))) (ss_cons (s_for (passes_of rfl) rfl (i_enum rfl T.b_enumerate (ae_cons (d_ix (d_var 4) (d_neg d_int) (fun _ _ => rfl)) ae_nil)) (pg_tup rfl (pgs_cons (pg_name (i := 7) sc.nd rfl (by first | exact Or.inl rfl | exact Or.inr rfl)) (pgs_cons (pg_name (i := 8) sc.nd rfl (by first | exact Or.inl rfl | exact Or.inr rfl)) pgs_nil))) (g_tup (n := 2) (g_cons (g_name 7) (g_cons (g_name 8) g_nil))) (ss_one (s_if (d_tw (w_and (t_notN (d_var 8)) (w_and1 (t_lt (d_var 8) (d_var 3))))) (ss_one (s_ret (d_tup (ae_cons d_str (ae_cons (d_var 7) ae_nil))))) ss_nil))) (ss_one (s_ret d_non)))
abbrev N_few_judged : List Str := ["folk", "weights", "line", "many", "thing", "price", "names", "table"]
theorem sc_few_judged : FnScope N_few_judged ["folk", "weights", "line", "many", "thing"] (defScope (top 61)) := ⟨rfl, rfl, rfl, by decide +kernel, rfl, by decide +kernel, by decide +kernel⟩
theorem w_few_judged (T : Txt K mg)
    (c_is_number : Cal P w K mg base (clOf K) "is_number" 1 ["thing"] F_is_number)
    (c_paid : Cal P w K mg base (clOf K) "paid" 1 ["folk", "weights", "names"] F_paid)
    (c_must_be_asked : Cal P w K mg base (clOf K) "must_be_asked" 7 ["folk", "weights", "line", "many"] F_must_be_asked_v2)
    (c_are_along : Cal P w K mg base (clOf K) "are_along" 3 ["line", "many", "thing"] F_are_along)
    (c_is_table : Cal P w K mg base (clOf K) "is_table" 3 ["many", "wide", "thing"] F_is_table)
    (c_table_wrong : Cal P w K mg base (clOf K) "table_wrong" 3 ["folk", "weights", "line", "price", "table"] F_table_wrong) : Cal P w K mg base (clOf K) "few_judged" 8 ["folk", "weights", "line", "many", "thing"] F_few_judged_v2 := by
  have sc := sc_few_judged
  refine cal_of T.d_few_judged sc (by decide) fun f cdv A outer s H E hr => ?_
  have tk : Takes (cxOf (L2.CX P w) P w K mg base N_few_judged "few_judged" (defScope (top 61)) f cdv A outer s H E) (fun cls d _ H => E cls d H) := takes_of rfl rfl rfl rfl
  exact ss_cons (s_expr (d_cal c_must_be_asked (hr.mono (by decide)) (passAt tk) (ae_cons (d_var 0) (ae_cons (d_var 1) (ae_cons (d_var 2) (ae_cons (d_var 3) ae_nil)))))) (ss_cons (s_if (d_tw (w_or (d_tnot (d_tval (d_isi (m := "tuple") (by decide) rfl T.b_isinstance (d_var 4) (pe_bltn rfl T.b_tuple (by decide +kernel) rfl)))) (w_or (t_ne hr.units (d_callB (CallR.or' call_len_seq call_len_str) cd_len rfl T.b_len (by decide +kernel) (ap_cons (d_var 4) ap_nil)) d_int) (w_or1 (d_tnot (d_tval (d_cal c_is_number (hr.mono (by decide)) (passAt tk) (ae_cons (d_ix (d_var 4) d_int (fun _ _ => rfl)) ae_nil)))))))) (ss_one (s_ret (d_tup (ae_cons d_str ae_nil)))) ss_nil) (ss_cons (s_asgB (d_var 4) (pg_or (pg_tup rfl (pgs_cons (pg_name (i := 5) sc.nd rfl (by first | exact Or.inl rfl | exact Or.inr rfl)) (pgs_cons (pg_name (i := 6) sc.nd rfl (by first | exact Or.inl rfl | exact Or.inr rfl)) (pgs_cons (pg_name (i := 7) sc.nd rfl (by first | exact Or.inl rfl | exact Or.inr rfl)) pgs_nil)))) (pg_unl rfl (pgs_cons (pg_name (i := 5) sc.nd rfl (by first | exact Or.inl rfl | exact Or.inr rfl)) (pgs_cons (pg_name (i := 6) sc.nd rfl (by first | exact Or.inl rfl | exact Or.inr rfl)) (pgs_cons (pg_name (i := 7) sc.nd rfl (by first | exact Or.inl rfl | exact Or.inr rfl)) pgs_nil))))) (g_seq (n := 3) (g_cons (g_name 5) (g_cons (g_name 6) (g_cons (g_name 7) g_nil))))) (ss_cons (s_if (d_tnot (d_tval (d_cal c_are_along (hr.mono (by decide)) (passAt tk) (ae_cons (d_var 2) (ae_cons (d_var 3) (ae_cons (d_var 6) ae_nil)))))) (ss_one (s_ret (d_tup (ae_cons d_str ae_nil)))) ss_nil) (ss_cons (s_if (t_ne hr.units (d_cal c_paid (hr.mono (by decide)) (passAt tk) (ae_cons (d_var 0) (ae_cons (d_var 1) (ae_cons (d_var 6) ae_nil)))) (d_var 5)) (ss_one (s_ret (d_tup (ae_cons d_str ae_nil)))) ss_nil) (ss_cons (s_if (d_tnot (d_tval (d_cal c_is_table (hr.mono (by decide)) (passAt tk) (ae_cons (d_var 3) (ae_cons (d_callB (CallR.or' call_len_seq call_len_str) cd_len rfl T.b_len (by decide +kernel) (ap_cons (d_var 2) ap_nil)) (ae_cons (d_var 7) ae_nil)))))) (ss_one (s_ret (d_tup (ae_cons d_str ae_nil)))) ss_nil) (ss_one (s_ret (d_cal c_table_wrong (hr.mono (by decide)) (passAt tk) (ae_cons (d_var 0) (ae_cons (d_var 1) (ae_cons (d_var 2) (ae_cons (d_var 5) (ae_cons (d_var 7) ae_nil)))))))))))))
abbrev N__law_whole : List Str := ["_law_found"]
theorem sc__law_whole : FnScope N__law_whole ["_law_found"] (defScope (top 63)) := ⟨rfl, rfl, rfl, by decide +kernel, rfl, by decide +kernel, by decide +kernel⟩
theorem w__law_whole (T : Txt K mg) : Cal P w K mg base (clOf K) "_law_whole" 1 ["_law_found"] F_law_whole := by
  have sc := sc__law_whole
  refine cal_of T.d__law_whole sc (by decide) fun f cdv A outer s H E hr => ?_
  have tk : Takes (cxOf (L2.CX P w) P w K mg base N__law_whole "_law_whole" (defScope (top 63)) f cdv A outer s H E) (fun cls d _ H => E cls d H) := takes_of rfl rfl rfl rfl
  exact ss_one (s_ret (v_and (d_isi (m := "int") (by decide) rfl T.b_isinstance (d_var 0) (pe_bltn rfl T.b_int (by decide +kernel) rfl)) (v_one (v_not (d_isi (m := "bool") (by decide) rfl T.b_isinstance (d_var 0) (pe_bltn rfl T.b_bool (by decide +kernel) rfl))))))
abbrev N__law_draws : List Str := ["_law_script", "_law_j", "_law_many", "_law_cell", "_law_great", "_law_number", "_law_found", "_law_k", "_law_mixed"]
theorem sc__law_draws : FnScope N__law_draws ["_law_script", "_law_j", "_law_many"] (defScope (top 64)) := ⟨rfl, rfl, rfl, by decide +kernel, rfl, by decide +kernel, by decide +kernel⟩
theorem w__law_draws (T : Txt K mg) : Cal P w K mg base (clOf K) "_law_draws" 1 ["_law_script", "_law_j", "_law_many"] F_law_draws := by
  have sc := sc__law_draws
  refine cal_of T.d__law_draws sc (by decide) fun f cdv A outer s H E hr => ?_
  have tk : Takes (cxOf (L2.CX P w) P w K mg base N__law_draws "_law_draws" (defScope (top 64)) f cdv A outer s H E) (fun cls d _ H => E cls d H) := takes_of rfl rfl rfl rfl
  exact ss_cons (s_set (i := 3) sc.nd rfl (by first | exact Or.inl rfl | exact Or.inr rfl) d_int) (ss_cons (s_if (t_gt (d_scLen rfl T.b_len (d_var 0)) d_int) (ss_one (s_set (i := 3) sc.nd rfl (by first | exact Or.inl rfl | exact Or.inr rfl) (d_scIx (d_var 0) (d_mod (d_var 1) (d_callB (CallR.or' (cr_min rfl) (call_min2 rfl)) cd_min rfl T.b_min (by decide +kernel) (ap_cons d_int (ap_cons (d_scLen rfl T.b_len (d_var 0)) ap_nil)))) (fun _ _ => rfl)))) ss_nil) (ss_cons (s_set (i := 4) sc.nd rfl (by first | exact Or.inl rfl | exact Or.inr rfl) (v_and (d_lt (d_var 1) (d_scLen rfl T.b_len (d_var 0))) (v_one (d_ge (d_var 3) (d_pow d_int d_int))))) (ss_cons (s_if (d_tval (d_var 4)) (ss_one (s_set (i := 3) sc.nd rfl (by first | exact Or.inl rfl | exact Or.inr rfl) (d_and (d_var 3) (d_sub (d_pow (d_pow (d_pow d_int d_int) d_int) d_int) d_int)))) ss_nil) (ss_cons (s_set (i := 5) sc.nd rfl (by first | exact Or.inl rfl | exact Or.inr rfl) (d_add (d_mod (d_var 3) d_int) (d_mul d_int (d_var 1)))) (ss_cons (s_set (i := 6) sc.nd rfl (by first | exact Or.inl rfl | exact Or.inr rfl) (d_lst ae_nil)) (ss_cons (s_for (passes_of rfl) rfl (i_range1 rfl T.b_range (ap_cons (d_var 2) ap_nil)) (pg_name (i := 7) sc.nd rfl (by first | exact Or.inl rfl | exact Or.inr rfl)) (g_name 7) (ss_one (s_if (d_tval (d_var 4)) (ss_cons (s_expr (d_append (pv 6) (d_mod (d_var 3) (d_pow d_int d_int)))) (ss_one (s_set (i := 3) sc.nd rfl (by first | exact Or.inl rfl | exact Or.inr rfl) (d_fdiv (d_var 3) (d_pow d_int d_int))))) (ss_cons (s_set (i := 8) sc.nd rfl (by first | exact Or.inl rfl | exact Or.inr rfl) (d_mod (d_add (d_var 5) (d_mul d_int (d_add (d_var 7) d_int))) d_int)) (ss_cons (s_set (i := 8) sc.nd rfl (by first | exact Or.inl rfl | exact Or.inr rfl) (d_mod (d_add (d_mul (d_var 8) (d_var 8)) (d_var 7)) d_int)) (ss_one (s_expr (d_append (pv 6) (d_mod (d_mod (d_mul (d_var 8) (d_var 8)) d_int) (d_pow d_int d_int)))))))))) (ss_one (s_ret (d_var 6)))))))))
abbrev N__law_names : List Str := ["_law_digits", "_law_found", "_law_last", "_law_digit", "_law_name"]
theorem sc__law_names : FnScope N__law_names ["_law_digits"] (defScope (top 65)) := ⟨rfl, rfl, rfl, by decide +kernel, rfl, by decide +kernel, by decide +kernel⟩
theorem w__law_names (T : Txt K mg) : Cal P w K mg base (clOf K) "_law_names" 1 ["_law_digits"] F_law_names_v4 := by
  have sc := sc__law_names
  refine cal_of T.d__law_names sc (by decide) fun f cdv A outer s H E hr => ?_
  have tk : Takes (cxOf (L2.CX P w) P w K mg base N__law_names "_law_names" (defScope (top 65)) f cdv A outer s H E) (fun cls d _ H => E cls d H) := takes_of rfl rfl rfl rfl
  exact ss_cons (s_set (i := 1) sc.nd rfl (by first | exact Or.inl rfl | exact Or.inr rfl) (d_lst ae_nil)) (ss_cons (s_set (i := 2) sc.nd rfl (by first | exact Or.inl rfl | exact Or.inr rfl) (d_neg d_int)) (ss_cons (s_for (passes_of rfl) rfl (i_list (d_var 0)) (pg_name (i := 3) sc.nd rfl (by first | exact Or.inl rfl | exact Or.inr rfl)) (g_name 3) (ss_cons (s_set (i := 2) sc.nd rfl (by first | exact Or.inl rfl | exact Or.inr rfl) (d_add (d_add (d_var 2) d_int) (d_ix (d_lst (ae_cons d_int (ae_cons d_int (ae_cons (d_mod (d_fdiv (d_var 3) d_int) d_int) (ae_cons (d_var 3) ae_nil))))) (d_mod (d_var 3) d_int) (fun _ _ => rfl)))) (ss_one (s_expr (d_append (pv 1) (d_var 2)))))) (ss_one (s_ret (d_lc rfl sc.nd (own := [("_law_name", 4)]) (i_list (d_var 1)) (blkOk_by (own := [("_law_name", 4)]) (N := N__law_names) (sc := defScope (top 65)) (by decide +kernel)) (g_name 4) (by decide) (fun _ _ _ _ _ => pg_name (i := 4) sc.nd rfl (by first | exact Or.inl rfl | exact Or.inr rfl)) (fun _ _ _ _ _ => dts_nil) (fun _ _ _ _ _ => d_add (d_var 4) (d_mul (d_pow d_int d_int) (d_callTy call_int1 cd_int rfl T.b_int (by decide +kernel) (ap_cons (d_eq hr.units (d_mod (d_fdiv (d_ix (d_var 0) d_int (fun _ _ => rfl)) d_int) d_int) d_int) ap_nil)))))))))
abbrev N__law_shuffled : List Str := ["_law_names_here", "_law_digits", "_law_found", "_law_name", "_law_digit"]
theorem sc__law_shuffled : FnScope N__law_shuffled ["_law_names_here", "_law_digits"] (defScope (top 66)) := ⟨rfl, rfl, rfl, by decide +kernel, rfl, by decide +kernel, by decide +kernel⟩
theorem w__law_shuffled (T : Txt K mg) : Cal P w K mg base (clOf K) "_law_shuffled" 1 ["_law_names_here", "_law_digits"] F_law_shuffled := by
  have sc := sc__law_shuffled
  refine cal_of T.d__law_shuffled sc (by decide) fun f cdv A outer s H E hr => ?_
  have tk : Takes (cxOf (L2.CX P w) P w K mg base N__law_shuffled "_law_shuffled" (defScope (top 66)) f cdv A outer s H E) (fun cls d _ H => E cls d H) := takes_of rfl rfl rfl rfl
  exact ss_cons (s_set (i := 2) sc.nd rfl (by first | exact Or.inl rfl | exact Or.inr rfl) (d_lst ae_nil)) (ss_cons (s_for (passes_of rfl) rfl (i_zip rfl T.b_zip (ae_cons (d_var 0) (ae_cons (d_var 1) ae_nil)) (fun h => pi_zip (by rfl) T.b_zip h)) (pg_tup rfl (pgs_cons (pg_name (i := 3) sc.nd rfl (by first | exact Or.inl rfl | exact Or.inr rfl)) (pgs_cons (pg_name (i := 4) sc.nd rfl (by first | exact Or.inl rfl | exact Or.inr rfl)) pgs_nil))) (g_tup (n := 2) (g_cons (g_name 3) (g_cons (g_name 4) g_nil))) (ss_one (s_expr (d_insert (pv 2) (ae_cons (d_mod (d_var 4) (d_add (d_callB (CallR.or' call_len_seq call_len_str) cd_len rfl T.b_len (by decide +kernel) (ap_cons (d_var 2) ap_nil)) d_int)) (ae_cons (d_var 3) ae_nil)))))) (ss_one (s_ret (d_var 2))))
abbrev N__law_fallen : List Str := ["_law_line_here", "_law_digits", "_law_left", "_law_found", "_law_digit"]
theorem sc__law_fallen : FnScope N__law_fallen ["_law_line_here", "_law_digits"] (defScope (top 67)) := ⟨rfl, rfl, rfl, by decide +kernel, rfl, by decide +kernel, by decide +kernel⟩
theorem w__law_fallen (T : Txt K mg) : Cal P w K mg base (clOf K) "_law_fallen" 1 ["_law_line_here", "_law_digits"] F_law_fallen := by
  have sc := sc__law_fallen
  refine cal_of T.d__law_fallen sc (by decide) fun f cdv A outer s H E hr => ?_
  have tk : Takes (cxOf (L2.CX P w) P w K mg base N__law_fallen "_law_fallen" (defScope (top 67)) f cdv A outer s H E) (fun cls d _ H => E cls d H) := takes_of rfl rfl rfl rfl
  exact ss_cons (s_set (i := 2) sc.nd rfl (by first | exact Or.inl rfl | exact Or.inr rfl) (d_callTy call_list_of cd_list rfl T.b_list (by decide +kernel) (ap_cons (d_var 0) ap_nil))) (ss_cons (s_set (i := 3) sc.nd rfl (by first | exact Or.inl rfl | exact Or.inr rfl) (d_lst ae_nil)) (ss_cons (s_for (passes_of rfl) rfl (i_list (d_slice (d_var 1) dp_none (dp_some (d_callB (CallR.or' call_len_seq call_len_str) cd_len rfl T.b_len (by decide +kernel) (ap_cons (d_var 0) ap_nil))))) (pg_name (i := 4) sc.nd rfl (by first | exact Or.inl rfl | exact Or.inr rfl)) (g_name 4) (ss_one (s_expr (d_append (pv 3) (d_popAt (pv 2) (d_ix (d_lst (ae_cons d_int (ae_cons (d_neg d_int) ae_nil))) (d_mod (d_var 4) d_int) (fun _ _ => rfl))))))) (ss_one (s_ret (d_rev (d_var 3))))))
abbrev N__law_line : List Str := ["_law_script", "_law_j", "_law_many", "_law_draws_here"]
theorem sc__law_line : FnScope N__law_line ["_law_script", "_law_j", "_law_many"] (defScope (top 68)) := ⟨rfl, rfl, rfl, by decide +kernel, rfl, by decide +kernel, by decide +kernel⟩
theorem w__law_line (T : Txt K mg)
    (c__law_draws : Cal P w K mg base (clOf K) "_law_draws" 1 ["_law_script", "_law_j", "_law_many"] F_law_draws)
    (c__law_names : Cal P w K mg base (clOf K) "_law_names" 1 ["_law_digits"] F_law_names_v4)
    (c__law_shuffled : Cal P w K mg base (clOf K) "_law_shuffled" 1 ["_law_names_here", "_law_digits"] F_law_shuffled) : Cal P w K mg base (clOf K) "_law_line" 2 ["_law_script", "_law_j", "_law_many"] F_law_line_v2 := by
  have sc := sc__law_line
  refine cal_of T.d__law_line sc (by decide) fun f cdv A outer s H E hr => ?_
  have tk : Takes (cxOf (L2.CX P w) P w K mg base N__law_line "_law_line" (defScope (top 68)) f cdv A outer s H E) (fun cls d _ H => E cls d H) := takes_of rfl rfl rfl rfl
  exact ss_cons (s_set (i := 3) sc.nd rfl (by first | exact Or.inl rfl | exact Or.inr rfl) (d_cal c__law_draws (hr.mono (by decide)) (passAt tk) (ae_cons (d_var 0) (ae_cons (d_var 1) (ae_cons (d_mul d_int (d_var 2)) ae_nil))))) (ss_one (s_ret (d_cal c__law_shuffled (hr.mono (by decide)) (passAt tk) (ae_cons (d_cal c__law_names (hr.mono (by decide)) (passAt tk) (ae_cons (d_slice (d_var 3) dp_none (dp_some (d_var 2))) ae_nil)) (ae_cons (d_slice (d_var 3) (dp_some (d_var 2)) dp_none) ae_nil)))))
abbrev N__law_folk : List Str := ["_law_script", "_law_j", "_law_line_here", "_law_hands", "_law_free", "_law_found", "_law_hand", "_law_draws_here"]
theorem sc__law_folk : FnScope N__law_folk ["_law_script", "_law_j", "_law_line_here", "_law_hands", "_law_free"] (defScope (top 69)) := ⟨rfl, rfl, rfl, by decide +kernel, rfl, by decide +kernel, by decide +kernel⟩
theorem w__law_folk (T : Txt K mg)
    (c__law_draws : Cal P w K mg base (clOf K) "_law_draws" 1 ["_law_script", "_law_j", "_law_many"] F_law_draws)
    (c__law_shuffled : Cal P w K mg base (clOf K) "_law_shuffled" 1 ["_law_names_here", "_law_digits"] F_law_shuffled)
    (c__law_fallen : Cal P w K mg base (clOf K) "_law_fallen" 1 ["_law_line_here", "_law_digits"] F_law_fallen) : Cal P w K mg base (clOf K) "_law_folk" 2 ["_law_script", "_law_j", "_law_line_here", "_law_hands", "_law_free"] F_law_folk_v4 := by
  have sc := sc__law_folk
  refine cal_of T.d__law_folk sc (by decide) fun f cdv A outer s H E hr => ?_
  have tk : Takes (cxOf (L2.CX P w) P w K mg base N__law_folk "_law_folk" (defScope (top 69)) f cdv A outer s H E) (fun cls d _ H => E cls d H) := takes_of rfl rfl rfl rfl
  exact ss_cons (s_set (i := 5) sc.nd rfl (by first | exact Or.inl rfl | exact Or.inr rfl) (d_lst ae_nil)) (ss_cons (s_for (passes_of rfl) rfl (i_range1 rfl T.b_range (ap_cons (d_var 3) ap_nil)) (pg_name (i := 6) sc.nd rfl (by first | exact Or.inl rfl | exact Or.inr rfl)) (g_name 6) (ss_cons (s_set (i := 7) sc.nd rfl (by first | exact Or.inl rfl | exact Or.inr rfl) (d_cal c__law_draws (hr.mono (by decide)) (passAt tk) (ae_cons (d_var 0) (ae_cons (d_add (d_var 1) (d_var 6)) (ae_cons (d_add (d_callB (CallR.or' call_len_seq call_len_str) cd_len rfl T.b_len (by decide +kernel) (ap_cons (d_var 2) ap_nil)) d_int) ae_nil))))) (ss_one (s_if (d_tw (w_or (t_in hr.units (by rfl) (d_var 6) (d_lst (ae_cons (d_var 4) (ae_cons (d_add (d_var 4) d_int) ae_nil)))) (w_or1 (d_tw (w_and (t_lt (d_var 4) d_int) (w_and1 (t_gt (d_mod (d_ix (d_var 7) (d_neg d_int) (fun _ _ => rfl)) d_int) d_int))))))) (ss_one (s_expr (d_append (pv 5) (d_cal c__law_shuffled (hr.mono (by decide)) (passAt tk) (ae_cons (d_var 2) (ae_cons (d_var 7) ae_nil)))))) (ss_one (s_expr (d_append (pv 5) (d_cal c__law_fallen (hr.mono (by decide)) (passAt tk) (ae_cons (d_var 2) (ae_cons (d_var 7) ae_nil)))))))))) (ss_one (s_ret (d_var 5))))
abbrev N__law_weights : List Str := ["_law_script", "_law_j", "_law_hands", "_law_digits", "_law_digit"]
theorem sc__law_weights : FnScope N__law_weights ["_law_script", "_law_j", "_law_hands"] (defScope (top 70)) := ⟨rfl, rfl, rfl, by decide +kernel, rfl, by decide +kernel, by decide +kernel⟩
theorem w__law_weights (T : Txt K mg)
    (c__law_draws : Cal P w K mg base (clOf K) "_law_draws" 1 ["_law_script", "_law_j", "_law_many"] F_law_draws) : Cal P w K mg base (clOf K) "_law_weights" 2 ["_law_script", "_law_j", "_law_hands"] F_law_weights := by
  have sc := sc__law_weights
  refine cal_of T.d__law_weights sc (by decide) fun f cdv A outer s H E hr => ?_
  have tk : Takes (cxOf (L2.CX P w) P w K mg base N__law_weights "_law_weights" (defScope (top 70)) f cdv A outer s H E) (fun cls d _ H => E cls d H) := takes_of rfl rfl rfl rfl
  exact ss_cons (s_set (i := 3) sc.nd rfl (by first | exact Or.inl rfl | exact Or.inr rfl) (d_cal c__law_draws (hr.mono (by decide)) (passAt tk) (ae_cons (d_var 0) (ae_cons (d_var 1) (ae_cons (d_var 2) ae_nil))))) (ss_one (s_ret (d_lc rfl sc.nd (own := [("_law_digit", 4)]) (i_list (d_var 3)) (blkOk_by (own := [("_law_digit", 4)]) (N := N__law_weights) (sc := defScope (top 70)) (by decide +kernel)) (g_name 4) (by decide) (fun _ _ _ _ _ => pg_name (i := 4) sc.nd rfl (by first | exact Or.inl rfl | exact Or.inr rfl)) (fun _ _ _ _ _ => dts_nil) (fun _ _ _ _ _ => d_ix (d_lst (ae_cons d_int (ae_cons (d_add d_int (d_mod (d_fdiv (d_var 4) d_int) d_int)) (ae_cons (d_add d_int (d_mod (d_fdiv (d_var 4) d_int) d_int)) (ae_cons (d_sub (d_sub (d_pow d_int d_int) d_int) (d_var 4)) ae_nil))))) (d_mod (d_var 4) d_int) (fun _ _ => rfl)))))
abbrev N__law_falls : List Str := ["_law_line_here", "_law_ranking", "_law_places", "_law_name"]
theorem sc__law_falls : FnScope N__law_falls ["_law_line_here", "_law_ranking"] (defScope (top 71)) := ⟨rfl, rfl, rfl, by decide +kernel, rfl, by decide +kernel, by decide +kernel⟩
theorem w__law_falls (T : Txt K mg) : Cal P w K mg base (clOf K) "_law_falls" 1 ["_law_line_here", "_law_ranking"] F_law_falls := by
  have sc := sc__law_falls
  refine cal_of T.d__law_falls sc (by decide) fun f cdv A outer s H E hr => ?_
  have tk : Takes (cxOf (L2.CX P w) P w K mg base N__law_falls "_law_falls" (defScope (top 71)) f cdv A outer s H E) (fun cls d _ H => E cls d H) := takes_of rfl rfl rfl rfl
  exact ss_cons (s_set (i := 2) sc.nd rfl (by first | exact Or.inl rfl | exact Or.inr rfl) (d_lst ae_nil)) (ss_cons (s_for (passes_of rfl) rfl (i_list (d_var 1)) (pg_name (i := 3) sc.nd rfl (by first | exact Or.inl rfl | exact Or.inr rfl)) (g_name 3) (ss_cons (s_expr (d_append (pv 2) (d_index (d_var 0) (d_var 3)))) (ss_one (s_if (t_ne hr.units (d_sub (d_callB (CallR.or' (cr_max rfl) (call_max2 rfl)) cd_max rfl T.b_max (by decide +kernel) (ap_cons (d_var 2) ap_nil)) (d_callB (CallR.or' (cr_min rfl) (call_min2 rfl)) cd_min rfl T.b_min (by decide +kernel) (ap_cons (d_var 2) ap_nil))) (d_sub (d_callB (CallR.or' call_len_seq call_len_str) cd_len rfl T.b_len (by decide +kernel) (ap_cons (d_var 2) ap_nil)) d_int)) (ss_one (s_ret d_bl)) ss_nil)))) (ss_one (s_ret d_bl)))
abbrev N__law_copied : List Str := ["_law_thing", "_law_part"]
theorem sc__law_copied : FnScope N__law_copied ["_law_thing"] (defScope (top 72)) := ⟨rfl, rfl, rfl, by decide +kernel, rfl, by decide +kernel, by decide +kernel⟩
theorem w__law_copied (T : Txt K mg) : ∀ m : Nat, Cal P w K mg base (clOf K) "_law_copied" (m + 1) ["_law_thing"] (F_law_copied m) := by
  have sc := sc__law_copied
  intro m
  induction m with
  | zero => exact cal_of T.d__law_copied sc (by decide) fun f cdv A outer s H E hr => ss_nev
  | succ m crec =>
    refine (?_ : Cal P w K mg base (clOf K) "_law_copied" (m + 1 + 1) ["_law_thing"] (runF N__law_copied.length 1 (p_law_copied (F_law_copied m))))
    refine cal_of T.d__law_copied sc (by decide) fun f cdv A outer s H E hr => ?_
    have tk : Takes (cxOf (L2.CX P w) P w K mg base N__law_copied "_law_copied" (defScope (top 72)) f cdv A outer s H E) (fun cls d _ H => E cls d H) := takes_of rfl rfl rfl rfl
    exact ss_cons (s_if (d_tval (d_isi (m := "tuple") (by decide) rfl T.b_isinstance (d_var 0) (pe_bltn rfl T.b_tuple (by decide +kernel) rfl))) (ss_one (s_ret (d_callTy call_tuple_of cd_tuple rfl T.b_tuple (by decide +kernel) (ap_cons (d_lc rfl sc.nd (own := [("_law_part", 1)]) (i_list (d_var 0)) (blkOk_by (own := [("_law_part", 1)]) (N := N__law_copied) (sc := defScope (top 72)) (by decide +kernel)) (g_name 1) (by decide) (fun _ _ _ _ _ => pg_name (i := 1) sc.nd rfl (by first | exact Or.inl rfl | exact Or.inr rfl)) (fun _ _ _ _ _ => dts_nil) (fun _ _ _ _ _ => d_cal crec (hr.mono (Nat.le_refl _)) passA0 (ae_cons (d_var 1) ae_nil))) ap_nil)))) ss_nil) (ss_cons (s_if (d_tval (d_isi (m := "list") (by decide) rfl T.b_isinstance (d_var 0) (pe_bltn rfl T.b_list (by decide +kernel) rfl))) (ss_one (s_ret (d_lc rfl sc.nd (own := [("_law_part", 1)]) (i_list (d_var 0)) (blkOk_by (own := [("_law_part", 1)]) (N := N__law_copied) (sc := defScope (top 72)) (by decide +kernel)) (g_name 1) (by decide) (fun _ _ _ _ _ => pg_name (i := 1) sc.nd rfl (by first | exact Or.inl rfl | exact Or.inr rfl)) (fun _ _ _ _ _ => dts_nil) (fun _ _ _ _ _ => d_cal crec (hr.mono (Nat.le_refl _)) passA0 (ae_cons (d_var 1) ae_nil))))) ss_nil) (ss_one (s_ret (d_var 0))))
abbrev N__law_names_of : List Str := ["_law_e", "_law_hits", "_law_words", "_law_word", "_law_hit"]
theorem sc__law_names_of : FnScope N__law_names_of ["_law_e"] (defScope (top 73)) := ⟨rfl, rfl, rfl, by decide +kernel, rfl, by decide +kernel, by decide +kernel⟩
theorem w__law_names_of (T : Txt K mg) : Cal P w K mg base (clOf K) "_law_names_of" 1 ["_law_e"] F_law_names_of_v7 := by
  have sc := sc__law_names_of
  refine cal_of T.d__law_names_of sc (by decide) fun f cdv A outer s H E hr => ?_
  have tk : Takes (cxOf (L2.CX P w) P w K mg base N__law_names_of "_law_names_of" (defScope (top 73)) f cdv A outer s H E) (fun cls d _ H => E cls d H) := takes_of rfl rfl rfl rfl
  exact ss_cons (s_set (i := 1) sc.nd rfl (by first | exact Or.inl rfl | exact Or.inr rfl) (d_lst (ae_cons (d_isYA (ns := ["NoFall", "NoFit", "NoFolk", "NoLine", "NoNames", "NoNumber", "NoWeights"]) (m := "NoBack") T.exc T.exy_NoBack rfl T.b_isinstance (d_var 0) (pe_glob (v := .ref (clOf K "NoBack")) rfl T.exy_NoBack.g rfl)) (ae_cons (d_isXA (ns := ["NoFall", "NoFit", "NoFolk", "NoLine", "NoNames", "NoNumber", "NoWeights"]) (m := "NoFall") T.exc rfl T.b_isinstance (d_var 0) (pe_glob (v := .ref (clOf K "NoFall")) rfl (T.exc.each "NoFall" (by decide)).g rfl)) (ae_cons (d_isXA (ns := ["NoFall", "NoFit", "NoFolk", "NoLine", "NoNames", "NoNumber", "NoWeights"]) (m := "NoFit") T.exc rfl T.b_isinstance (d_var 0) (pe_glob (v := .ref (clOf K "NoFit")) rfl (T.exc.each "NoFit" (by decide)).g rfl)) ae_nil))))) (ss_cons (s_set (i := 1) sc.nd rfl (by first | exact Or.inl rfl | exact Or.inr rfl) (d_add (d_var 1) (d_lst (ae_cons (d_isYA (ns := ["NoFall", "NoFit", "NoFolk", "NoLine", "NoNames", "NoNumber", "NoWeights"]) (m := "NoFixed") T.exc T.exy_NoFixed rfl T.b_isinstance (d_var 0) (pe_glob (v := .ref (clOf K "NoFixed")) rfl T.exy_NoFixed.g rfl)) (ae_cons (d_isXA (ns := ["NoFall", "NoFit", "NoFolk", "NoLine", "NoNames", "NoNumber", "NoWeights"]) (m := "NoFolk") T.exc rfl T.b_isinstance (d_var 0) (pe_glob (v := .ref (clOf K "NoFolk")) rfl (T.exc.each "NoFolk" (by decide)).g rfl)) (ae_cons (d_isYA (ns := ["NoFall", "NoFit", "NoFolk", "NoLine", "NoNames", "NoNumber", "NoWeights"]) (m := "NoHand") T.exc T.exy_NoHand rfl T.b_isinstance (d_var 0) (pe_glob (v := .ref (clOf K "NoHand")) rfl T.exy_NoHand.g rfl)) ae_nil)))))) (ss_cons (s_set (i := 1) sc.nd rfl (by first | exact Or.inl rfl | exact Or.inr rfl) (d_add (d_var 1) (d_lst (ae_cons (d_isXA (ns := ["NoFall", "NoFit", "NoFolk", "NoLine", "NoNames", "NoNumber", "NoWeights"]) (m := "NoLine") T.exc rfl T.b_isinstance (d_var 0) (pe_glob (v := .ref (clOf K "NoLine")) rfl (T.exc.each "NoLine" (by decide)).g rfl)) (ae_cons (d_isXA (ns := ["NoFall", "NoFit", "NoFolk", "NoLine", "NoNames", "NoNumber", "NoWeights"]) (m := "NoNames") T.exc rfl T.b_isinstance (d_var 0) (pe_glob (v := .ref (clOf K "NoNames")) rfl (T.exc.each "NoNames" (by decide)).g rfl)) (ae_cons (d_isXA (ns := ["NoFall", "NoFit", "NoFolk", "NoLine", "NoNames", "NoNumber", "NoWeights"]) (m := "NoNumber") T.exc rfl T.b_isinstance (d_var 0) (pe_glob (v := .ref (clOf K "NoNumber")) rfl (T.exc.each "NoNumber" (by decide)).g rfl)) ae_nil)))))) (ss_cons (s_set (i := 1) sc.nd rfl (by first | exact Or.inl rfl | exact Or.inr rfl) (d_add (d_var 1) (d_lst (ae_cons (d_isYA (ns := ["NoFall", "NoFit", "NoFolk", "NoLine", "NoNames", "NoNumber", "NoWeights"]) (m := "NoPaper") T.exc T.exy_NoPaper rfl T.b_isinstance (d_var 0) (pe_glob (v := .ref (clOf K "NoPaper")) rfl T.exy_NoPaper.g rfl)) (ae_cons (d_isYA (ns := ["NoFall", "NoFit", "NoFolk", "NoLine", "NoNames", "NoNumber", "NoWeights"]) (m := "NoRanking") T.exc T.exy_NoRanking rfl T.b_isinstance (d_var 0) (pe_glob (v := .ref (clOf K "NoRanking")) rfl T.exy_NoRanking.g rfl)) (ae_cons (d_isYA (ns := ["NoFall", "NoFit", "NoFolk", "NoLine", "NoNames", "NoNumber", "NoWeights"]) (m := "NoRow") T.exc T.exy_NoRow rfl T.b_isinstance (d_var 0) (pe_glob (v := .ref (clOf K "NoRow")) rfl T.exy_NoRow.g rfl)) ae_nil)))))) (ss_cons (s_set (i := 1) sc.nd rfl (by first | exact Or.inl rfl | exact Or.inr rfl) (d_add (d_var 1) (d_lst (ae_cons (d_isYA (ns := ["NoFall", "NoFit", "NoFolk", "NoLine", "NoNames", "NoNumber", "NoWeights"]) (m := "NoRule") T.exc T.exy_NoRule rfl T.b_isinstance (d_var 0) (pe_glob (v := .ref (clOf K "NoRule")) rfl T.exy_NoRule.g rfl)) (ae_cons (d_isYA (ns := ["NoFall", "NoFit", "NoFolk", "NoLine", "NoNames", "NoNumber", "NoWeights"]) (m := "NoText") T.exc T.exy_NoText rfl T.b_isinstance (d_var 0) (pe_glob (v := .ref (clOf K "NoText")) rfl T.exy_NoText.g rfl)) (ae_cons (d_isYA (ns := ["NoFall", "NoFit", "NoFolk", "NoLine", "NoNames", "NoNumber", "NoWeights"]) (m := "NoTitle") T.exc T.exy_NoTitle rfl T.b_isinstance (d_var 0) (pe_glob (v := .ref (clOf K "NoTitle")) rfl T.exy_NoTitle.g rfl)) ae_nil)))))) (ss_cons (s_set (i := 1) sc.nd rfl (by first | exact Or.inl rfl | exact Or.inr rfl) (d_add (d_var 1) (d_lst (ae_cons (d_isYA (ns := ["NoFall", "NoFit", "NoFolk", "NoLine", "NoNames", "NoNumber", "NoWeights"]) (m := "NoTops") T.exc T.exy_NoTops rfl T.b_isinstance (d_var 0) (pe_glob (v := .ref (clOf K "NoTops")) rfl T.exy_NoTops.g rfl)) (ae_cons (d_isYA (ns := ["NoFall", "NoFit", "NoFolk", "NoLine", "NoNames", "NoNumber", "NoWeights"]) (m := "NoTree") T.exc T.exy_NoTree rfl T.b_isinstance (d_var 0) (pe_glob (v := .ref (clOf K "NoTree")) rfl T.exy_NoTree.g rfl)) (ae_cons (d_isXA (ns := ["NoFall", "NoFit", "NoFolk", "NoLine", "NoNames", "NoNumber", "NoWeights"]) (m := "NoWeights") T.exc rfl T.b_isinstance (d_var 0) (pe_glob (v := .ref (clOf K "NoWeights")) rfl (T.exc.each "NoWeights" (by decide)).g rfl)) ae_nil)))))) (ss_cons (s_set (i := 1) sc.nd rfl (by first | exact Or.inl rfl | exact Or.inr rfl) (d_add (d_var 1) (d_lst (ae_cons (d_isYA (ns := ["NoFall", "NoFit", "NoFolk", "NoLine", "NoNames", "NoNumber", "NoWeights"]) (m := "TooGreat") T.exc T.exy_TooGreat rfl T.b_isinstance (d_var 0) (pe_glob (v := .ref (clOf K "TooGreat")) rfl T.exy_TooGreat.g rfl)) ae_nil)))) (ss_cons (s_set (i := 2) sc.nd rfl (by first | exact Or.inl rfl | exact Or.inr rfl) (d_lst (ae_cons d_str (ae_cons d_str (ae_cons d_str (ae_cons d_str (ae_cons d_str (ae_cons d_str (ae_cons d_str (ae_cons d_str ae_nil)))))))))) (ss_cons (s_set (i := 2) sc.nd rfl (by first | exact Or.inl rfl | exact Or.inr rfl) (d_add (d_var 2) (d_lst (ae_cons d_str (ae_cons d_str (ae_cons d_str (ae_cons d_str (ae_cons d_str (ae_cons d_str (ae_cons d_str (ae_cons d_str ae_nil))))))))))) (ss_cons (s_set (i := 2) sc.nd rfl (by first | exact Or.inl rfl | exact Or.inr rfl) (d_add (d_var 2) (d_lst (ae_cons d_str (ae_cons d_str (ae_cons d_str ae_nil)))))) (ss_one (s_ret (d_lc rfl sc.nd (own := [("_law_word", 3), ("_law_hit", 4)]) (i_zip rfl T.b_zip (ae_cons (d_var 2) (ae_cons (d_var 1) ae_nil)) (fun h => pi_zip (by rfl) T.b_zip h)) (blkOk_by (own := [("_law_word", 3), ("_law_hit", 4)]) (N := N__law_names_of) (sc := defScope (top 73)) (by decide +kernel)) (g_tup (n := 2) (g_cons (g_name 3) (g_cons (g_name 4) g_nil))) (by decide) (fun _ _ _ _ _ => pg_tup rfl (pgs_cons (pg_name (i := 3) sc.nd rfl (by first | exact Or.inl rfl | exact Or.inr rfl)) (pgs_cons (pg_name (i := 4) sc.nd rfl (by first | exact Or.inl rfl | exact Or.inr rfl)) pgs_nil))) (fun _ _ _ _ _ => dts_one (d_tval (d_var 4))) (fun _ _ _ _ _ => d_var 3)))))))))))))
abbrev N__law_asked : List Str := ["_law_way", "_law_folk_here", "_law_weights_here", "_law_line_here", "_law_many"]
theorem sc__law_asked : FnScope N__law_asked ["_law_way", "_law_folk_here", "_law_weights_here", "_law_line_here", "_law_many"] (defScope (top 74)) := ⟨rfl, rfl, rfl, by decide +kernel, rfl, by decide +kernel, by decide +kernel⟩
theorem w__law_asked (T : Txt K mg)
    (c_margin : Cal P w K mg base (clOf K) "margin" 7 ["folk", "weights", "one", "other"] F_margin)
    (c_order_judged : Cal P w K mg base (clOf K) "order_judged" 7 ["folk", "weights", "paper"] F_order_judged)
    (c_order_of : Cal P w K mg base (clOf K) "order_of" 7 ["folk", "weights"] F_order_of_v3)
    (c_unbeaten : Cal P w K mg base (clOf K) "unbeaten" 7 ["folk", "weights"] F_unbeaten)
    (c_middle : Cal P w K mg base (clOf K) "middle" 7 ["folk", "weights", "line"] F_middle_v2)
    (c_cost : Cal P w K mg base (clOf K) "cost" 7 ["folk", "weights", "names"] F_cost)
    (c_few : Cal P w K mg base (clOf K) "few" 8 ["folk", "weights", "line", "many"] F_few_v2)
    (c_few_judged : Cal P w K mg base (clOf K) "few_judged" 8 ["folk", "weights", "line", "many", "thing"] F_few_judged_v2) : Cal P w K mg base (clOf K) "_law_asked" 9 ["_law_way", "_law_folk_here", "_law_weights_here", "_law_line_here", "_law_many"] F_law_asked_v11 := by
  have sc := sc__law_asked
  refine cal_of T.d__law_asked sc (by decide) fun f cdv A outer s H E hr => ?_
  have tk : Takes (cxOf (L2.CX P w) P w K mg base N__law_asked "_law_asked" (defScope (top 74)) f cdv A outer s H E) (fun cls d _ H => E cls d H) := takes_of rfl rfl rfl rfl
  exact ss_cons (s_if (t_eq hr.units (d_var 0) d_int) (ss_one (s_expr (d_cal c_margin (hr.mono (by decide)) (passAt tk) (ae_cons (d_var 1) (ae_cons (d_var 2) (ae_cons d_non (ae_cons d_non ae_nil))))))) ss_nil) (ss_cons (s_if (t_eq hr.units (d_var 0) d_int) (ss_one (s_expr (d_cal c_order_judged (hr.mono (by decide)) (passAt tk) (ae_cons (d_var 1) (ae_cons (d_var 2) (ae_cons d_non ae_nil)))))) ss_nil) (ss_cons (s_if (t_eq hr.units (d_var 0) d_int) (ss_one (s_expr (d_cal c_order_of (hr.mono (by decide)) (passAt tk) (ae_cons (d_var 1) (ae_cons (d_var 2) ae_nil))))) ss_nil) (ss_cons (s_if (t_eq hr.units (d_var 0) d_int) (ss_one (s_expr (d_cal c_unbeaten (hr.mono (by decide)) (passAt tk) (ae_cons (d_var 1) (ae_cons (d_var 2) ae_nil))))) ss_nil) (ss_cons (s_if (t_eq hr.units (d_var 0) d_int) (ss_one (s_expr (d_cal c_cost (hr.mono (by decide)) (passAt tk) (ae_cons (d_var 1) (ae_cons (d_var 2) (ae_cons d_non ae_nil)))))) ss_nil) (ss_cons (s_if (t_eq hr.units (d_var 0) d_int) (ss_one (s_expr (d_cal c_middle (hr.mono (by decide)) (passAt tk) (ae_cons (d_var 1) (ae_cons (d_var 2) (ae_cons (d_var 3) ae_nil)))))) ss_nil) (ss_cons (s_if (t_eq hr.units (d_var 0) d_int) (ss_one (s_expr (d_cal c_few (hr.mono (by decide)) (passAt tk) (ae_cons (d_var 1) (ae_cons (d_var 2) (ae_cons (d_var 3) (ae_cons (d_var 4) ae_nil))))))) ss_nil) (ss_one (s_if (t_eq hr.units (d_var 0) d_int) (ss_one (s_expr (d_cal c_few_judged (hr.mono (by decide)) (passAt tk) (ae_cons (d_var 1) (ae_cons (d_var 2) (ae_cons (d_var 3) (ae_cons (d_var 4) (ae_cons d_non ae_nil)))))))) ss_nil))))))))
abbrev N__law_refused : List Str := ["_law_ways", "_law_folk_here", "_law_weights_here", "_law_line_here", "_law_many", "_law_word", "_law_way", "_law_caught", "_law_e"]
theorem sc__law_refused : FnScope N__law_refused ["_law_ways", "_law_folk_here", "_law_weights_here", "_law_line_here", "_law_many", "_law_word"] (defScope (top 75)) := ⟨rfl, rfl, rfl, by decide +kernel, rfl, by decide +kernel, by decide +kernel⟩
theorem w__law_refused (T : Txt K mg)
    (c__law_whole : Cal P w K mg base (clOf K) "_law_whole" 1 ["_law_found"] F_law_whole)
    (c__law_names_of : Cal P w K mg base (clOf K) "_law_names_of" 1 ["_law_e"] F_law_names_of_v7)
    (c__law_asked : Cal P w K mg base (clOf K) "_law_asked" 9 ["_law_way", "_law_folk_here", "_law_weights_here", "_law_line_here", "_law_many"] F_law_asked_v11) : Cal P w K mg base (clOf K) "_law_refused" 10 ["_law_ways", "_law_folk_here", "_law_weights_here", "_law_line_here", "_law_many", "_law_word"] F_law_refused_v36 := by
  have sc := sc__law_refused
  refine cal_of T.d__law_refused sc (by decide) fun f cdv A outer s H E hr => ?_
  have tk : Takes (cxOf (L2.CX P w) P w K mg base N__law_refused "_law_refused" (defScope (top 75)) f cdv A outer s H E) (fun cls d _ H => E cls d H) := takes_of rfl rfl rfl rfl
  exact ss_cons (s_for (passes_of rfl) rfl (i_list (d_var 0)) (pg_name (i := 6) sc.nd rfl (by first | exact Or.inl rfl | exact Or.inr rfl)) (g_name 6) (ss_cons (s_set (i := 7) sc.nd rfl (by first | exact Or.inl rfl | exact Or.inr rfl) d_non) (ss_cons (s_tryA (ns := ["NoFall", "NoFit", "NoFolk", "NoLine", "NoNames", "NoNumber", "NoWeights"]) (i := 8) (j := 7) rfl T.exc.top rfl rfl rfl sc.nd rfl rfl ⟨rfl, by decide, .inl T.exc.gF⟩ tk (fun W pn xe tk _ => ss_one (s_expr (d_cal c__law_asked (hr.mono (by decide)) (passAt tk) (ae_cons (d_var 6) (ae_cons (d_var 1) (ae_cons (d_var 2) (ae_cons (d_var 3) (ae_cons (d_var 4) ae_nil)))))))) (fun a oe pn => pss_one (ps_set (i := 7) sc.nd rfl (by first | exact Or.inl rfl | exact Or.inr rfl) (pv 8)))) (ss_cons (s_if (d_tw (w_or (d_tnot (d_tval (d_isVA (ns := ["NoFall", "NoFit", "NoFolk", "NoLine", "NoNames", "NoNumber", "NoWeights"]) T.exc rfl T.b_isinstance (d_var 7) (pe_bltn rfl T.b_ValueError (by decide +kernel) rfl)))) (w_or1 (t_ne hr.units (d_cal c__law_names_of (hr.mono (by decide)) (passAt tk) (ae_cons (d_var 7) ae_nil)) (d_lst (ae_cons (d_ix (d_var 5) d_int (fun _ _ => rfl)) ae_nil)))))) (ss_one (s_ret d_bl)) ss_nil) (ss_one (s_if (d_tw (w_and (t_eq hr.units (d_ix (d_var 5) d_int (fun _ _ => rfl)) d_str) (w_and1 (d_tw (w_or (d_tnot (d_tval (d_cal c__law_whole (hr.mono (by decide)) (passAt tk) (ae_cons (d_fld (n := "NoFall") (T.exc.each "NoFall" (by decide)) T.ox_NoFall.no rfl (d_var 7)) ae_nil)))) (w_or1 (t_ne hr.units (d_fld (n := "NoFall") (T.exc.each "NoFall" (by decide)) T.ox_NoFall.no rfl (d_var 7)) (d_ix (d_var 5) d_int (fun _ _ => rfl))))))))) (ss_one (s_ret d_bl)) ss_nil)))))) (ss_one (s_ret d_bl))
abbrev N__law_no_folk : List Str := ["_law_folk_here", "_law_number", "_law_at", "_law_ranking", "_law_far", "_law_some", "_law_odd", "_law_name"]
theorem sc__law_no_folk : FnScope N__law_no_folk ["_law_folk_here", "_law_number"] (defScope (top 76)) := ⟨rfl, rfl, rfl, by decide +kernel, rfl, by decide +kernel, by decide +kernel⟩
theorem w__law_no_folk (T : Txt K mg) : Cal P w K mg base (clOf K) "_law_no_folk" 1 ["_law_folk_here", "_law_number"] F_law_no_folk := by
  have sc := sc__law_no_folk
  refine cal_of T.d__law_no_folk sc (by decide) fun f cdv A outer s H E hr => ?_
  have tk : Takes (cxOf (L2.CX P w) P w K mg base N__law_no_folk "_law_no_folk" (defScope (top 76)) f cdv A outer s H E) (fun cls d _ H => E cls d H) := takes_of rfl rfl rfl rfl
  exact ss_cons (s_set (i := 2) sc.nd rfl (by first | exact Or.inl rfl | exact Or.inr rfl) (d_mod (d_fdiv (d_var 1) d_int) (d_callB (CallR.or' call_len_seq call_len_str) cd_len rfl T.b_len (by decide +kernel) (ap_cons (d_var 0) ap_nil)))) (ss_cons (s_set (i := 3) sc.nd rfl (by first | exact Or.inl rfl | exact Or.inr rfl) (d_ix (d_var 0) (d_var 2) (fun _ _ => rfl))) (ss_cons (s_set (i := 4) sc.nd rfl (by first | exact Or.inl rfl | exact Or.inr rfl) (d_add (d_callB (CallR.or' (cr_max rfl) (call_max2 rfl)) cd_max rfl T.b_max (by decide +kernel) (ap_cons (d_var 3) ap_nil)) d_int)) (ss_cons (s_set (i := 5) sc.nd rfl (by first | exact Or.inl rfl | exact Or.inr rfl) (d_lst (ae_cons (d_lst ae_nil) (ae_cons (d_slice (d_mul (d_var 0) d_int) dp_none (dp_some d_int)) (ae_cons (d_callTy call_tuple_of cd_tuple rfl T.b_tuple (by decide +kernel) (ap_cons (d_var 0) ap_nil)) (ae_cons d_non (ae_cons (d_add (d_add (d_add (d_slice (d_var 0) dp_none (dp_some (d_var 2))) (d_lst (ae_cons (d_slice (d_var 3) dp_none (dp_some (d_neg d_int))) ae_nil))) (d_slice (d_var 0) (dp_some (d_add (d_var 2) d_int)) dp_none)) (d_lst (ae_cons (d_var 3) ae_nil))) ae_nil))))))) (ss_cons (s_expr (d_append (pv 5) (d_add (d_var 0) (d_lst (ae_cons (d_add (d_slice (d_var 3) dp_none (dp_some (d_neg d_int))) (d_lst (ae_cons (d_var 4) ae_nil))) ae_nil))))) (ss_cons (s_expr (d_append (pv 5) (d_add (d_var 0) (d_lst (ae_cons (d_add (d_slice (d_var 3) dp_none (dp_some (d_neg d_int))) (d_slice (d_var 3) dp_none (dp_some d_int))) ae_nil))))) (ss_cons (s_expr (d_append (pv 5) (d_add (d_var 0) (d_lst (ae_cons (d_add (d_lc rfl sc.nd (own := [("_law_name", 7)]) (i_list (d_var 3)) (blkOk_by (own := [("_law_name", 7)]) (N := N__law_no_folk) (sc := defScope (top 76)) (by decide +kernel)) (g_name 7) (by decide) (fun _ _ _ _ _ => pg_name (i := 7) sc.nd rfl (by first | exact Or.inl rfl | exact Or.inr rfl)) (fun _ _ _ _ _ => dts_nil) (fun _ _ _ _ _ => d_ix (d_lst (ae_cons (d_var 7) (ae_cons d_bl ae_nil))) (d_callTy call_int1 cd_int rfl T.b_int (by decide +kernel) (ap_cons (d_eq hr.units (d_var 7) d_int) ap_nil)) (fun _ _ => rfl))) (d_mul (d_lst (ae_cons (d_var 4) ae_nil)) (d_callTy call_int1 cd_int rfl T.b_int (by decide +kernel) (ap_cons (d_notIn hr.units (by rfl) d_int (d_var 3)) ap_nil)))) ae_nil))))) (ss_cons (s_set (i := 5) sc.nd rfl (by first | exact Or.inl rfl | exact Or.inr rfl) (d_add (d_var 5) (d_lst (ae_cons (d_add (d_add (d_slice (d_var 0) dp_none (dp_some (d_var 2))) (d_lst (ae_cons (d_callTy call_tuple_of cd_tuple rfl T.b_tuple (by decide +kernel) (ap_cons (d_var 3) ap_nil)) ae_nil))) (d_slice (d_var 0) (dp_some (d_add (d_var 2) d_int)) dp_none)) (ae_cons (d_add (d_add (d_slice (d_var 0) dp_none (dp_some (d_var 2))) (d_lst (ae_cons d_non ae_nil))) (d_slice (d_var 0) (dp_some (d_add (d_var 2) d_int)) dp_none)) ae_nil))))) (ss_cons (s_for (passes_of rfl) rfl (i_list (d_lst (ae_cons d_non (ae_cons d_str (ae_cons (d_lst (ae_cons d_int ae_nil)) (ae_cons (d_tup (ae_cons d_int ae_nil)) ae_nil)))))) (pg_name (i := 6) sc.nd rfl (by first | exact Or.inl rfl | exact Or.inr rfl)) (g_name 6) (ss_one (s_expr (d_append (pv 5) (d_add (d_add (d_slice (d_var 0) dp_none (dp_some (d_var 2))) (d_lst (ae_cons (d_add (d_slice (d_var 3) dp_none (dp_some (d_neg d_int))) (d_lst (ae_cons (d_var 6) ae_nil))) ae_nil))) (d_slice (d_var 0) (dp_some (d_add (d_var 2) d_int)) dp_none)))))) (ss_one (s_ret (d_ix (d_var 5) (d_mod (d_var 1) (d_callB (CallR.or' call_len_seq call_len_str) cd_len rfl T.b_len (by decide +kernel) (ap_cons (d_var 5) ap_nil))) (fun _ _ => rfl))))))))))))
abbrev N__law_no_weights : List Str := ["_law_weights_here", "_law_number", "_law_at", "_law_some", "_law_odd"]
theorem sc__law_no_weights : FnScope N__law_no_weights ["_law_weights_here", "_law_number"] (defScope (top 77)) := ⟨rfl, rfl, rfl, by decide +kernel, rfl, by decide +kernel, by decide +kernel⟩
theorem w__law_no_weights (T : Txt K mg) : Cal P w K mg base (clOf K) "_law_no_weights" 1 ["_law_weights_here", "_law_number"] F_law_no_weights := by
  have sc := sc__law_no_weights
  refine cal_of T.d__law_no_weights sc (by decide) fun f cdv A outer s H E hr => ?_
  have tk : Takes (cxOf (L2.CX P w) P w K mg base N__law_no_weights "_law_no_weights" (defScope (top 77)) f cdv A outer s H E) (fun cls d _ H => E cls d H) := takes_of rfl rfl rfl rfl
  exact ss_cons (s_set (i := 2) sc.nd rfl (by first | exact Or.inl rfl | exact Or.inr rfl) (d_mod (d_fdiv (d_var 1) d_int) (d_callB (CallR.or' call_len_seq call_len_str) cd_len rfl T.b_len (by decide +kernel) (ap_cons (d_var 0) ap_nil)))) (ss_cons (s_set (i := 3) sc.nd rfl (by first | exact Or.inl rfl | exact Or.inr rfl) (d_lst (ae_cons (d_slice (d_var 0) (dp_some d_int) dp_none) (ae_cons (d_add (d_var 0) (d_lst (ae_cons d_int ae_nil))) (ae_cons d_non (ae_cons (d_callTy call_tuple_of cd_tuple rfl T.b_tuple (by decide +kernel) (ap_cons (d_var 0) ap_nil)) (ae_cons d_str ae_nil))))))) (ss_cons (s_for (passes_of rfl) rfl (i_list (d_lst (ae_cons d_int (ae_cons (d_neg d_int) (ae_cons d_bl (ae_cons d_non (ae_cons d_str ae_nil))))))) (pg_name (i := 4) sc.nd rfl (by first | exact Or.inl rfl | exact Or.inr rfl)) (g_name 4) (ss_one (s_expr (d_append (pv 3) (d_add (d_add (d_slice (d_var 0) dp_none (dp_some (d_var 2))) (d_lst (ae_cons (d_var 4) ae_nil))) (d_slice (d_var 0) (dp_some (d_add (d_var 2) d_int)) dp_none)))))) (ss_one (s_ret (d_ix (d_var 3) (d_mod (d_var 1) (d_callB (CallR.or' call_len_seq call_len_str) cd_len rfl T.b_len (by decide +kernel) (ap_cons (d_var 3) ap_nil))) (fun _ _ => rfl))))))
abbrev N__law_no_line : List Str := ["_law_line_here", "_law_number", "_law_at", "_law_some", "_law_odd"]
theorem sc__law_no_line : FnScope N__law_no_line ["_law_line_here", "_law_number"] (defScope (top 78)) := ⟨rfl, rfl, rfl, by decide +kernel, rfl, by decide +kernel, by decide +kernel⟩
theorem w__law_no_line (T : Txt K mg) : Cal P w K mg base (clOf K) "_law_no_line" 1 ["_law_line_here", "_law_number"] F_law_no_line := by
  have sc := sc__law_no_line
  refine cal_of T.d__law_no_line sc (by decide) fun f cdv A outer s H E hr => ?_
  have tk : Takes (cxOf (L2.CX P w) P w K mg base N__law_no_line "_law_no_line" (defScope (top 78)) f cdv A outer s H E) (fun cls d _ H => E cls d H) := takes_of rfl rfl rfl rfl
  exact ss_cons (s_set (i := 2) sc.nd rfl (by first | exact Or.inl rfl | exact Or.inr rfl) (d_mod (d_fdiv (d_var 1) d_int) (d_callB (CallR.or' call_len_seq call_len_str) cd_len rfl T.b_len (by decide +kernel) (ap_cons (d_var 0) ap_nil)))) (ss_cons (s_set (i := 3) sc.nd rfl (by first | exact Or.inl rfl | exact Or.inr rfl) (d_lst (ae_cons (d_lst ae_nil) (ae_cons (d_add (d_var 0) (d_slice (d_var 0) dp_none (dp_some d_int))) (ae_cons d_non (ae_cons (d_callTy call_tuple_of cd_tuple rfl T.b_tuple (by decide +kernel) (ap_cons (d_var 0) ap_nil)) (ae_cons (d_lst (ae_cons d_non ae_nil)) (ae_cons (d_add (d_add (d_slice (d_var 0) dp_none (dp_some (d_var 2))) (d_lst (ae_cons d_bl (ae_cons d_bl ae_nil)))) (d_slice (d_var 0) (dp_some (d_add (d_var 2) d_int)) dp_none)) ae_nil)))))))) (ss_cons (s_set (i := 3) sc.nd rfl (by first | exact Or.inl rfl | exact Or.inr rfl) (d_add (d_var 3) (d_lst (ae_cons (d_lRng1 rfl rfl T.b_list rfl T.b_range d_int) (ae_cons (d_add (d_add (d_slice (d_var 0) dp_none (dp_some (d_var 2))) (d_lst (ae_cons (d_neg d_int) ae_nil))) (d_slice (d_var 0) (dp_some (d_add (d_var 2) d_int)) dp_none)) (ae_cons (d_add (d_add (d_slice (d_var 0) dp_none (dp_some (d_var 2))) (d_slice (d_var 0) (dp_some (d_add (d_var 2) d_int)) dp_none)) (d_lst (ae_cons (d_ix (d_var 0) (d_sub (d_var 2) d_int) (fun _ _ => rfl)) ae_nil))) ae_nil)))))) (ss_cons (s_for (passes_of rfl) rfl (i_list (d_lst (ae_cons d_non (ae_cons d_str (ae_cons (d_lst (ae_cons d_int ae_nil)) (ae_cons (d_tup (ae_cons d_int ae_nil)) ae_nil)))))) (pg_name (i := 4) sc.nd rfl (by first | exact Or.inl rfl | exact Or.inr rfl)) (g_name 4) (ss_one (s_expr (d_append (pv 3) (d_add (d_add (d_slice (d_var 0) dp_none (dp_some (d_var 2))) (d_lst (ae_cons (d_var 4) ae_nil))) (d_slice (d_var 0) (dp_some (d_add (d_var 2) d_int)) dp_none)))))) (ss_one (s_ret (d_ix (d_var 3) (d_mod (d_var 1) (d_callB (CallR.or' call_len_seq call_len_str) cd_len rfl T.b_len (by decide +kernel) (ap_cons (d_var 3) ap_nil))) (fun _ _ => rfl)))))))
abbrev N_law : List Str := ["_law_script", "_law_draws_here", "_law_line_here", "_law_hands", "_law_folk_here", "_law_weights_here", "_law_kept", "_law_made", "_law_none", "_law_bad", "_law_other", "_law_late", "_law_number", "_law_one", "_law_hand"]
theorem sc_law : FnScope N_law ["_law_script"] (defScope (top 79)) := ⟨rfl, rfl, rfl, by decide +kernel, rfl, by decide +kernel, by decide +kernel⟩
theorem w_law (T : Txt K mg) (hp : LawOkS 15 p_law_k54)
    (c__law_draws : Cal P w K mg base (clOf K) "_law_draws" 1 ["_law_script", "_law_j", "_law_many"] F_law_draws)
    (c__law_line : Cal P w K mg base (clOf K) "_law_line" 2 ["_law_script", "_law_j", "_law_many"] F_law_line_v2)
    (c__law_folk : Cal P w K mg base (clOf K) "_law_folk" 2 ["_law_script", "_law_j", "_law_line_here", "_law_hands", "_law_free"] F_law_folk_v4)
    (c__law_weights : Cal P w K mg base (clOf K) "_law_weights" 2 ["_law_script", "_law_j", "_law_hands"] F_law_weights)
    (c__law_falls : Cal P w K mg base (clOf K) "_law_falls" 1 ["_law_line_here", "_law_ranking"] F_law_falls)
    (c__law_copied : Cal P w K mg base (clOf K) "_law_copied" 7 ["_law_thing"] (F_law_copied 6))
    (c__law_refused : Cal P w K mg base (clOf K) "_law_refused" 10 ["_law_ways", "_law_folk_here", "_law_weights_here", "_law_line_here", "_law_many", "_law_word"] F_law_refused_v36)
    (c__law_no_folk : Cal P w K mg base (clOf K) "_law_no_folk" 1 ["_law_folk_here", "_law_number"] F_law_no_folk)
    (c__law_no_weights : Cal P w K mg base (clOf K) "_law_no_weights" 1 ["_law_weights_here", "_law_number"] F_law_no_weights)
    (c__law_no_line : Cal P w K mg base (clOf K) "_law_no_line" 1 ["_law_line_here", "_law_number"] F_law_no_line) {f : Addr} {fd : FuncData} (F : Fun K "law" "law" (top 79) f fd) : FnG P w K mg base (L2.CX P w) 11 f fd ["_law_script"] (spLaw K) := by
  have sc := sc_law
  refine law_ok2 (cl := clOf K) F sc (fun f cdv A outer s H E hr => ?_) hp
  have tk : Takes (cxOf (L2.CX P w) P w K mg base N_law "law" (defScope (top 79)) f cdv A outer s H E) (fun cls d _ H => E cls d H) := takes_of rfl rfl rfl rfl
  exact ss_cons (s_set (i := 1) sc.nd rfl (by first | exact Or.inl rfl | exact Or.inr rfl) (d_cal c__law_draws (hr.mono (by decide)) (passAt tk) (ae_cons (d_var 0) (ae_cons d_int (ae_cons d_int ae_nil))))) (ss_cons (s_set (i := 2) sc.nd rfl (by first | exact Or.inl rfl | exact Or.inr rfl) (d_cal c__law_line (hr.mono (by decide)) (passAt tk) (ae_cons (d_var 0) (ae_cons d_int (ae_cons (d_add d_int (d_mod (d_ix (d_var 1) d_int (fun _ _ => rfl)) d_int)) ae_nil))))) (ss_cons (s_set (i := 3) sc.nd rfl (by first | exact Or.inl rfl | exact Or.inr rfl) (d_ix (d_lst (ae_cons (d_add d_int (d_mod (d_ix (d_var 1) d_int (fun _ _ => rfl)) d_int)) (ae_cons d_int ae_nil))) (d_callTy call_int1 cd_int rfl T.b_int (by decide +kernel) (ap_cons (d_eq hr.units (d_mod (d_fdiv (d_ix (d_var 1) d_int (fun _ _ => rfl)) d_int) d_int) d_int) ap_nil)) (fun _ _ => rfl))) (ss_cons (s_set (i := 4) sc.nd rfl (by first | exact Or.inl rfl | exact Or.inr rfl) (d_cal c__law_folk (hr.mono (by decide)) (passAt tk) (ae_cons (d_var 0) (ae_cons d_int (ae_cons (d_var 2) (ae_cons (d_var 3) (ae_cons (d_mod (d_ix (d_var 1) d_int (fun _ _ => rfl)) (d_add (d_var 3) d_int)) ae_nil))))))) (ss_cons (s_set (i := 5) sc.nd rfl (by first | exact Or.inl rfl | exact Or.inr rfl) (d_cal c__law_weights (hr.mono (by decide)) (passAt tk) (ae_cons (d_var 0) (ae_cons d_int (ae_cons (d_var 3) ae_nil))))) (ss_cons (s_set (i := 6) sc.nd rfl (by first | exact Or.inl rfl | exact Or.inr rfl) (d_cal c__law_copied (hr.mono (by decide)) (passAt tk) (ae_cons (d_lst (ae_cons (d_var 4) (ae_cons (d_var 5) (ae_cons (d_var 2) ae_nil)))) ae_nil))) (ss_cons (s_set (i := 7) sc.nd rfl (by first | exact Or.inl rfl | exact Or.inr rfl) (d_excs (ae_cons (d_mkX (n := "NoFall") (wx_NoFall (P := P) (w := w) (base := base) T) (hr.room.mono (by decide)) rfl rfl d_int) (ae_cons (d_mkX (n := "NoFall") (wx_NoFall (P := P) (w := w) (base := base) T) (hr.room.mono (by decide)) rfl rfl d_int) (ae_cons (d_mkX (n := "NoFall") (wx_NoFall (P := P) (w := w) (base := base) T) (hr.room.mono (by decide)) rfl rfl (d_ix (d_var 1) d_int (fun _ _ => rfl))) ae_nil))))) (ss_cons (s_if (t_ne hr.units (d_flds (n := "NoFall") (i := 13) rfl sc.nd (own := [("_law_one", 13)]) (d_var 7) (blkOk_by (own := [("_law_one", 13)]) (N := N_law) (sc := defScope (top 79)) (by decide +kernel)) (by decide) (T.exc.each "NoFall" (by decide)) T.ox_NoFall.no rfl (fun _ _ _ _ _ => pg_name (i := 13) sc.nd rfl (by first | exact Or.inl rfl | exact Or.inr rfl)) (fun _ _ _ _ _ => pv 13) (fun _ _ _ _ _ => rfl)) (d_lst (ae_cons d_int (ae_cons d_int (ae_cons (d_ix (d_var 1) d_int (fun _ _ => rfl)) ae_nil))))) (ss_one (s_ret d_bl)) ss_nil) (ss_cons (s_set (i := 8) sc.nd rfl (by first | exact Or.inl rfl | exact Or.inr rfl) (d_cal c__law_no_folk (hr.mono (by decide)) (passAt tk) (ae_cons (d_var 4) (ae_cons (d_ix (d_var 1) d_int (fun _ _ => rfl)) ae_nil)))) (ss_cons (s_set (i := 9) sc.nd rfl (by first | exact Or.inl rfl | exact Or.inr rfl) (d_cal c__law_no_weights (hr.mono (by decide)) (passAt tk) (ae_cons (d_var 5) (ae_cons (d_ix (d_var 1) d_int (fun _ _ => rfl)) ae_nil)))) (ss_cons (s_if (d_tnot (d_tval (d_cal c__law_refused (hr.mono (by decide)) (passAt tk) (ae_cons (d_lRng1 rfl rfl T.b_list rfl T.b_range d_int) (ae_cons (d_var 8) (ae_cons (d_var 9) (ae_cons d_non (ae_cons d_non (ae_cons (d_lst (ae_cons d_str ae_nil)) ae_nil))))))))) (ss_one (s_ret d_bl)) ss_nil) (ss_cons (s_if (d_tnot (d_tval (d_cal c__law_refused (hr.mono (by decide)) (passAt tk) (ae_cons (d_lRng1 rfl rfl T.b_list rfl T.b_range d_int) (ae_cons (d_var 4) (ae_cons (d_var 9) (ae_cons d_non (ae_cons d_non (ae_cons (d_lst (ae_cons d_str ae_nil)) ae_nil))))))))) (ss_one (s_ret d_bl)) ss_nil) (ss_cons (s_if (d_tnot (d_tval (d_cal c__law_refused (hr.mono (by decide)) (passAt tk) (ae_cons (d_lst (ae_cons d_int (ae_cons d_int (ae_cons d_int ae_nil)))) (ae_cons (d_var 4) (ae_cons (d_var 5) (ae_cons (d_cal c__law_no_line (hr.mono (by decide)) (passAt tk) (ae_cons (d_var 2) (ae_cons (d_ix (d_var 1) d_int (fun _ _ => rfl)) ae_nil))) (ae_cons (d_neg d_int) (ae_cons (d_lst (ae_cons d_str ae_nil)) ae_nil))))))))) (ss_one (s_ret d_bl)) ss_nil) (ss_cons (s_for (passes_of rfl) rfl (i_list (d_lst (ae_cons (d_slice (d_var 2) dp_none (dp_some (d_neg d_int))) (ae_cons (d_add (d_slice (d_var 2) dp_none (dp_some (d_neg d_int))) (d_lst (ae_cons (d_add (d_callB (CallR.or' (cr_max rfl) (call_max2 rfl)) cd_max rfl T.b_max (by decide +kernel) (ap_cons (d_var 2) ap_nil)) d_int) ae_nil))) (ae_cons (d_add (d_var 2) (d_lst (ae_cons (d_add (d_callB (CallR.or' (cr_max rfl) (call_max2 rfl)) cd_max rfl T.b_max (by decide +kernel) (ap_cons (d_var 2) ap_nil)) d_int) ae_nil))) ae_nil))))) (pg_name (i := 10) sc.nd rfl (by first | exact Or.inl rfl | exact Or.inr rfl)) (g_name 10) (ss_one (s_if (d_tnot (d_tval (d_cal c__law_refused (hr.mono (by decide)) (passAt tk) (ae_cons (d_lst (ae_cons d_int (ae_cons d_int (ae_cons d_int ae_nil)))) (ae_cons (d_var 4) (ae_cons (d_var 5) (ae_cons (d_var 10) (ae_cons d_int (ae_cons (d_lst (ae_cons d_str ae_nil)) ae_nil))))))))) (ss_one (s_ret d_bl)) ss_nil))) (ss_cons (s_setLc (i := 11) rfl sc.nd rfl rfl (sw_true rfl rfl rfl (by decide +kernel)) (own := [("_law_hand", 14)]) (i_range1 rfl T.b_range (ap_cons (d_var 3) ap_nil)) (blkOk_by (own := [("_law_hand", 14)]) (N := N_law) (sc := defScope (top 79)) (by decide +kernel)) (g_name 14) (by decide) (fun _ _ _ _ _ => pg_name (i := 14) sc.nd rfl (by first | exact Or.inl rfl | exact Or.inr rfl)) (fun _ _ _ _ _ => dts_one (d_tnot (d_tval (d_cal c__law_falls (hr.mono (by decide)) passA0 (ae_cons (d_var 2) (ae_cons (d_ix (d_var 4) (d_var 14) (fun _ _ => rfl)) ae_nil)))))) (fun _ _ _ _ _ => d_var 14)) (ss_cons (s_if (t_ne hr.units (d_var 11) (d_lst ae_nil)) (ss_one (s_if (d_tnot (d_tval (d_cal c__law_refused (hr.mono (by decide)) (passAt tk) (ae_cons (d_lst (ae_cons d_int (ae_cons d_int (ae_cons d_int ae_nil)))) (ae_cons (d_var 4) (ae_cons (d_var 5) (ae_cons (d_var 2) (ae_cons d_int (ae_cons (d_lst (ae_cons d_str (ae_cons (d_ix (d_var 11) d_int (fun _ _ => rfl)) ae_nil))) ae_nil))))))))) (ss_one (s_ret d_bl)) ss_nil)) (ss_one (s_for (passes_of rfl) rfl (i_list (d_lst (ae_cons d_int (ae_cons (d_neg d_int) (ae_cons (d_add (d_callB (CallR.or' call_len_seq call_len_str) cd_len rfl T.b_len (by decide +kernel) (ap_cons (d_var 2) ap_nil)) d_int) (ae_cons (d_add (d_add (d_callB (CallR.or' call_len_seq call_len_str) cd_len rfl T.b_len (by decide +kernel) (ap_cons (d_var 2) ap_nil)) d_int) (d_ix (d_var 1) d_int (fun _ _ => rfl))) (ae_cons (d_sub (d_neg d_int) (d_mul (d_ix (d_var 1) d_int (fun _ _ => rfl)) (d_pow d_int d_int))) ae_nil))))))) (pg_name (i := 12) sc.nd rfl (by first | exact Or.inl rfl | exact Or.inr rfl)) (g_name 12) (ss_one (s_if (d_tnot (d_tval (d_cal c__law_refused (hr.mono (by decide)) (passAt tk) (ae_cons (d_lst (ae_cons d_int (ae_cons d_int ae_nil))) (ae_cons (d_var 4) (ae_cons (d_var 5) (ae_cons (d_var 2) (ae_cons (d_var 12) (ae_cons (d_lst (ae_cons d_str ae_nil)) ae_nil))))))))) (ss_one (s_ret d_bl)) ss_nil))))) (ss_one (s_ret (d_eq hr.units (d_var 6) (d_lst (ae_cons (d_var 4) (ae_cons (d_var 5) (ae_cons (d_var 2) ae_nil))))))))))))))))))))))
end
theorem all_mk {P : Program} {w : World} {K : PySem.W.Frag} {h : Heap} {mg : Str → Option Value} {fa : Addr} (X : K.In h) (G : h.Ns mainGlobals mg) (hfa : mg "law" = some (.ref fa)) {f_is_number : Addr} {od_is_number an_is_number : Option Addr} {sl_is_number : Array (Option Value)} {oc_is_number kV_is_number dc_is_number pm_is_number cd_is_number ct_is_number : Value} {f_are_unlike_names : Addr} {od_are_unlike_names an_are_unlike_names : Option Addr} {sl_are_unlike_names : Array (Option Value)} {oc_are_unlike_names kV_are_unlike_names dc_are_unlike_names pm_are_unlike_names cd_are_unlike_names ct_are_unlike_names : Value} {f_is_ranking : Addr} {od_is_ranking an_is_ranking : Option Addr} {sl_is_ranking : Array (Option Value)} {oc_is_ranking kV_is_ranking dc_is_ranking pm_is_ranking cd_is_ranking ct_is_ranking : Value} {f_is_folk : Addr} {od_is_folk an_is_folk : Option Addr} {sl_is_folk : Array (Option Value)} {oc_is_folk kV_is_folk dc_is_folk pm_is_folk cd_is_folk ct_is_folk : Value} {f_must_be_folk : Addr} {od_must_be_folk an_must_be_folk : Option Addr} {sl_must_be_folk : Array (Option Value)} {oc_must_be_folk kV_must_be_folk dc_must_be_folk pm_must_be_folk cd_must_be_folk ct_must_be_folk : Value} {f_is_ahead : Addr} {od_is_ahead an_is_ahead : Option Addr} {sl_is_ahead : Array (Option Value)} {oc_is_ahead kV_is_ahead dc_is_ahead pm_is_ahead cd_is_ahead ct_is_ahead : Value} {f_is_line : Addr} {od_is_line an_is_line : Option Addr} {sl_is_line : Array (Option Value)} {oc_is_line kV_is_line dc_is_line pm_is_line cd_is_line ct_is_line : Value} {f_must_be_line : Addr} {od_must_be_line an_must_be_line : Option Addr} {sl_must_be_line : Array (Option Value)} {oc_must_be_line kV_must_be_line dc_must_be_line pm_must_be_line cd_must_be_line ct_must_be_line : Value} {f_does_fall : Addr} {od_does_fall an_does_fall : Option Addr} {sl_does_fall : Array (Option Value)} {oc_does_fall kV_does_fall dc_does_fall pm_does_fall cd_does_fall ct_does_fall : Value} {f_must_be_weighed : Addr} {od_must_be_weighed an_must_be_weighed : Option Addr} {sl_must_be_weighed : Array (Option Value)} {oc_must_be_weighed kV_must_be_weighed dc_must_be_weighed pm_must_be_weighed cd_must_be_weighed ct_must_be_weighed : Value} {f_must_fall : Addr} {od_must_fall an_must_fall : Option Addr} {sl_must_fall : Array (Option Value)} {oc_must_fall kV_must_fall dc_must_fall pm_must_fall cd_must_fall ct_must_fall : Value} {f_lead : Addr} {od_lead an_lead : Option Addr} {sl_lead : Array (Option Value)} {oc_lead kV_lead dc_lead pm_lead cd_lead ct_lead : Value} {f_margin : Addr} {od_margin an_margin : Option Addr} {sl_margin : Array (Option Value)} {oc_margin kV_margin dc_margin pm_margin cd_margin ct_margin : Value} {f_beaters : Addr} {od_beaters an_beaters : Option Addr} {sl_beaters : Array (Option Value)} {oc_beaters kV_beaters dc_beaters pm_beaters cd_beaters ct_beaters : Value} {f_order_wrong : Addr} {od_order_wrong an_order_wrong : Option Addr} {sl_order_wrong : Array (Option Value)} {oc_order_wrong kV_order_wrong dc_order_wrong pm_order_wrong cd_order_wrong ct_order_wrong : Value} {f_ring_wrong : Addr} {od_ring_wrong an_ring_wrong : Option Addr} {sl_ring_wrong : Array (Option Value)} {oc_ring_wrong kV_ring_wrong dc_ring_wrong pm_ring_wrong cd_ring_wrong ct_ring_wrong : Value} {f_order_judged : Addr} {od_order_judged an_order_judged : Option Addr} {sl_order_judged : Array (Option Value)} {oc_order_judged kV_order_judged dc_order_judged pm_order_judged cd_order_judged ct_order_judged : Value} {f_ring_among : Addr} {od_ring_among an_ring_among : Option Addr} {sl_ring_among : Array (Option Value)} {oc_ring_among kV_ring_among dc_ring_among pm_ring_among cd_ring_among ct_ring_among : Value} {f_order_of : Addr} {od_order_of an_order_of : Option Addr} {sl_order_of : Array (Option Value)} {oc_order_of kV_order_of dc_order_of pm_order_of cd_order_of ct_order_of : Value} {f_unbeaten : Addr} {od_unbeaten an_unbeaten : Option Addr} {sl_unbeaten : Array (Option Value)} {oc_unbeaten kV_unbeaten dc_unbeaten pm_unbeaten cd_unbeaten ct_unbeaten : Value} {f_first_half : Addr} {od_first_half an_first_half : Option Addr} {sl_first_half : Array (Option Value)} {oc_first_half kV_first_half dc_first_half pm_first_half cd_first_half ct_first_half : Value} {f_middle : Addr} {od_middle an_middle : Option Addr} {sl_middle : Array (Option Value)} {oc_middle kV_middle dc_middle pm_middle cd_middle ct_middle : Value} {f_paid : Addr} {od_paid an_paid : Option Addr} {sl_paid : Array (Option Value)} {oc_paid kV_paid dc_paid pm_paid cd_paid ct_paid : Value} {f_cost : Addr} {od_cost an_cost : Option Addr} {sl_cost : Array (Option Value)} {oc_cost kV_cost dc_cost pm_cost cd_cost ct_cost : Value} {f_gain : Addr} {od_gain an_gain : Option Addr} {sl_gain : Array (Option Value)} {oc_gain kV_gain dc_gain pm_gain cd_gain ct_gain : Value} {f_bounds : Addr} {od_bounds an_bounds : Option Addr} {sl_bounds : Array (Option Value)} {oc_bounds kV_bounds dc_bounds pm_bounds cd_bounds ct_bounds : Value} {f_filled : Addr} {od_filled an_filled : Option Addr} {sl_filled : Array (Option Value)} {oc_filled kV_filled dc_filled pm_filled cd_filled ct_filled : Value} {f_must_be_asked : Addr} {od_must_be_asked an_must_be_asked : Option Addr} {sl_must_be_asked : Array (Option Value)} {oc_must_be_asked kV_must_be_asked dc_must_be_asked pm_must_be_asked cd_must_be_asked ct_must_be_asked : Value} {f_last_of : Addr} {od_last_of an_last_of : Option Addr} {sl_last_of : Array (Option Value)} {oc_last_of kV_last_of dc_last_of pm_last_of cd_last_of ct_last_of : Value} {f_few : Addr} {od_few an_few : Option Addr} {sl_few : Array (Option Value)} {oc_few kV_few dc_few pm_few cd_few ct_few : Value} {f_are_along : Addr} {od_are_along an_are_along : Option Addr} {sl_are_along : Array (Option Value)} {oc_are_along kV_are_along dc_are_along pm_are_along cd_are_along ct_are_along : Value} {f_is_row : Addr} {od_is_row an_is_row : Option Addr} {sl_is_row : Array (Option Value)} {oc_is_row kV_is_row dc_is_row pm_is_row cd_is_row ct_is_row : Value} {f_is_table : Addr} {od_is_table an_is_table : Option Addr} {sl_is_table : Array (Option Value)} {oc_is_table kV_is_table dc_is_table pm_is_table cd_is_table ct_is_table : Value} {f_table_wrong : Addr} {od_table_wrong an_table_wrong : Option Addr} {sl_table_wrong : Array (Option Value)} {oc_table_wrong kV_table_wrong dc_table_wrong pm_table_wrong cd_table_wrong ct_table_wrong : Value} {f_few_judged : Addr} {od_few_judged an_few_judged : Option Addr} {sl_few_judged : Array (Option Value)} {oc_few_judged kV_few_judged dc_few_judged pm_few_judged cd_few_judged ct_few_judged : Value} {f__law_whole : Addr} {od__law_whole an__law_whole : Option Addr} {sl__law_whole : Array (Option Value)} {oc__law_whole kV__law_whole dc__law_whole pm__law_whole cd__law_whole ct__law_whole : Value} {f__law_draws : Addr} {od__law_draws an__law_draws : Option Addr} {sl__law_draws : Array (Option Value)} {oc__law_draws kV__law_draws dc__law_draws pm__law_draws cd__law_draws ct__law_draws : Value} {f__law_names : Addr} {od__law_names an__law_names : Option Addr} {sl__law_names : Array (Option Value)} {oc__law_names kV__law_names dc__law_names pm__law_names cd__law_names ct__law_names : Value} {f__law_shuffled : Addr} {od__law_shuffled an__law_shuffled : Option Addr} {sl__law_shuffled : Array (Option Value)} {oc__law_shuffled kV__law_shuffled dc__law_shuffled pm__law_shuffled cd__law_shuffled ct__law_shuffled : Value} {f__law_fallen : Addr} {od__law_fallen an__law_fallen : Option Addr} {sl__law_fallen : Array (Option Value)} {oc__law_fallen kV__law_fallen dc__law_fallen pm__law_fallen cd__law_fallen ct__law_fallen : Value} {f__law_line : Addr} {od__law_line an__law_line : Option Addr} {sl__law_line : Array (Option Value)} {oc__law_line kV__law_line dc__law_line pm__law_line cd__law_line ct__law_line : Value} {f__law_folk : Addr} {od__law_folk an__law_folk : Option Addr} {sl__law_folk : Array (Option Value)} {oc__law_folk kV__law_folk dc__law_folk pm__law_folk cd__law_folk ct__law_folk : Value} {f__law_weights : Addr} {od__law_weights an__law_weights : Option Addr} {sl__law_weights : Array (Option Value)} {oc__law_weights kV__law_weights dc__law_weights pm__law_weights cd__law_weights ct__law_weights : Value} {f__law_falls : Addr} {od__law_falls an__law_falls : Option Addr} {sl__law_falls : Array (Option Value)} {oc__law_falls kV__law_falls dc__law_falls pm__law_falls cd__law_falls ct__law_falls : Value} {f__law_copied : Addr} {od__law_copied an__law_copied : Option Addr} {sl__law_copied : Array (Option Value)} {oc__law_copied kV__law_copied dc__law_copied pm__law_copied cd__law_copied ct__law_copied : Value} {f__law_names_of : Addr} {od__law_names_of an__law_names_of : Option Addr} {sl__law_names_of : Array (Option Value)} {oc__law_names_of kV__law_names_of dc__law_names_of pm__law_names_of cd__law_names_of ct__law_names_of : Value} {f__law_asked : Addr} {od__law_asked an__law_asked : Option Addr} {sl__law_asked : Array (Option Value)} {oc__law_asked kV__law_asked dc__law_asked pm__law_asked cd__law_asked ct__law_asked : Value} {f__law_refused : Addr} {od__law_refused an__law_refused : Option Addr} {sl__law_refused : Array (Option Value)} {oc__law_refused kV__law_refused dc__law_refused pm__law_refused cd__law_refused ct__law_refused : Value} {f__law_no_folk : Addr} {od__law_no_folk an__law_no_folk : Option Addr} {sl__law_no_folk : Array (Option Value)} {oc__law_no_folk kV__law_no_folk dc__law_no_folk pm__law_no_folk cd__law_no_folk ct__law_no_folk : Value} {f__law_no_weights : Addr} {od__law_no_weights an__law_no_weights : Option Addr} {sl__law_no_weights : Array (Option Value)} {oc__law_no_weights kV__law_no_weights dc__law_no_weights pm__law_no_weights cd__law_no_weights ct__law_no_weights : Value} {f__law_no_line : Addr} {od__law_no_line an__law_no_line : Option Addr} {sl__law_no_line : Array (Option Value)} {oc__law_no_line kV__law_no_line dc__law_no_line pm__law_no_line cd__law_no_line ct__law_no_line : Value} {f_law : Addr} {od_law an_law : Option Addr} {sl_law : Array (Option Value)} {oc_law kV_law dc_law pm_law cd_law ct_law : Value} {t_MOST_NAMES : Tok} {t_MOST_HANDS : Tok} {C_NoFall : Addr} {C_NoFit : Addr} {C_NoFolk : Addr} {C_NoLine : Addr} {C_NoNames : Addr} {C_NoNumber : Addr} {C_NoWeights : Addr} {C_FolkError : Addr} {C_NoBack : Addr} {C_NoFixed : Addr} {C_NoHand : Addr} {C_NoPaper : Addr} {C_NoRanking : Addr} {C_NoRow : Addr} {C_NoRule : Addr} {C_NoText : Addr} {C_NoTitle : Addr} {C_NoTops : Addr} {C_NoTree : Addr} {C_TooGreat : Addr} {nm_NoFall qn_NoFall : Str} {N_NoFall fi_NoFall : Addr} {bs_NoFall bm_NoFall sub_NoFall : List Value} {sn_NoFall : List Str} {ab_NoFall : Bool} {col_NoFall : Option Bool} {dd_NoFall : Option Addr} {k0_NoFall k1_NoFall k2_NoFall k3_NoFall k5_NoFall : Option Value} {oc_NoFall kV_NoFall dc_NoFall pm_NoFall cd2_NoFall ct2_NoFall : Value} {od_NoFall an_NoFall : Option Addr} {sl_NoFall : Array (Option Value)}
    (a_is_number : PySem.W.nsIn K mainGlobals "is_number" = some (some (.ref f_is_number))) (l_is_number : K.lookup f_is_number = some ⟨oc_is_number, od_is_number, .func (PySem.W.fnOf "is_number" "is_number" (defArgs (top 24)) (defBody (top 24)) (defScope (top 24)) .none kV_is_number dc_is_number pm_is_number an_is_number cd_is_number ct_is_number), sl_is_number⟩) (c_is_number : PySem.W.codeIn K cd_is_number "is_number" = true) (k_is_number : PySem.W.keepIn K (.ref f_is_number) = true)
    (a_are_unlike_names : PySem.W.nsIn K mainGlobals "are_unlike_names" = some (some (.ref f_are_unlike_names))) (l_are_unlike_names : K.lookup f_are_unlike_names = some ⟨oc_are_unlike_names, od_are_unlike_names, .func (PySem.W.fnOf "are_unlike_names" "are_unlike_names" (defArgs (top 25)) (defBody (top 25)) (defScope (top 25)) .none kV_are_unlike_names dc_are_unlike_names pm_are_unlike_names an_are_unlike_names cd_are_unlike_names ct_are_unlike_names), sl_are_unlike_names⟩) (c_are_unlike_names : PySem.W.codeIn K cd_are_unlike_names "are_unlike_names" = true) (k_are_unlike_names : PySem.W.keepIn K (.ref f_are_unlike_names) = true)
    (a_is_ranking : PySem.W.nsIn K mainGlobals "is_ranking" = some (some (.ref f_is_ranking))) (l_is_ranking : K.lookup f_is_ranking = some ⟨oc_is_ranking, od_is_ranking, .func (PySem.W.fnOf "is_ranking" "is_ranking" (defArgs (top 26)) (defBody (top 26)) (defScope (top 26)) .none kV_is_ranking dc_is_ranking pm_is_ranking an_is_ranking cd_is_ranking ct_is_ranking), sl_is_ranking⟩) (c_is_ranking : PySem.W.codeIn K cd_is_ranking "is_ranking" = true) (k_is_ranking : PySem.W.keepIn K (.ref f_is_ranking) = true)
    (a_is_folk : PySem.W.nsIn K mainGlobals "is_folk" = some (some (.ref f_is_folk))) (l_is_folk : K.lookup f_is_folk = some ⟨oc_is_folk, od_is_folk, .func (PySem.W.fnOf "is_folk" "is_folk" (defArgs (top 27)) (defBody (top 27)) (defScope (top 27)) .none kV_is_folk dc_is_folk pm_is_folk an_is_folk cd_is_folk ct_is_folk), sl_is_folk⟩) (c_is_folk : PySem.W.codeIn K cd_is_folk "is_folk" = true) (k_is_folk : PySem.W.keepIn K (.ref f_is_folk) = true)
    (a_must_be_folk : PySem.W.nsIn K mainGlobals "must_be_folk" = some (some (.ref f_must_be_folk))) (l_must_be_folk : K.lookup f_must_be_folk = some ⟨oc_must_be_folk, od_must_be_folk, .func (PySem.W.fnOf "must_be_folk" "must_be_folk" (defArgs (top 28)) (defBody (top 28)) (defScope (top 28)) .none kV_must_be_folk dc_must_be_folk pm_must_be_folk an_must_be_folk cd_must_be_folk ct_must_be_folk), sl_must_be_folk⟩) (c_must_be_folk : PySem.W.codeIn K cd_must_be_folk "must_be_folk" = true) (k_must_be_folk : PySem.W.keepIn K (.ref f_must_be_folk) = true)
    (a_is_ahead : PySem.W.nsIn K mainGlobals "is_ahead" = some (some (.ref f_is_ahead))) (l_is_ahead : K.lookup f_is_ahead = some ⟨oc_is_ahead, od_is_ahead, .func (PySem.W.fnOf "is_ahead" "is_ahead" (defArgs (top 29)) (defBody (top 29)) (defScope (top 29)) .none kV_is_ahead dc_is_ahead pm_is_ahead an_is_ahead cd_is_ahead ct_is_ahead), sl_is_ahead⟩) (c_is_ahead : PySem.W.codeIn K cd_is_ahead "is_ahead" = true) (k_is_ahead : PySem.W.keepIn K (.ref f_is_ahead) = true)
    (a_is_line : PySem.W.nsIn K mainGlobals "is_line" = some (some (.ref f_is_line))) (l_is_line : K.lookup f_is_line = some ⟨oc_is_line, od_is_line, .func (PySem.W.fnOf "is_line" "is_line" (defArgs (top 31)) (defBody (top 31)) (defScope (top 31)) .none kV_is_line dc_is_line pm_is_line an_is_line cd_is_line ct_is_line), sl_is_line⟩) (c_is_line : PySem.W.codeIn K cd_is_line "is_line" = true) (k_is_line : PySem.W.keepIn K (.ref f_is_line) = true)
    (a_must_be_line : PySem.W.nsIn K mainGlobals "must_be_line" = some (some (.ref f_must_be_line))) (l_must_be_line : K.lookup f_must_be_line = some ⟨oc_must_be_line, od_must_be_line, .func (PySem.W.fnOf "must_be_line" "must_be_line" (defArgs (top 32)) (defBody (top 32)) (defScope (top 32)) .none kV_must_be_line dc_must_be_line pm_must_be_line an_must_be_line cd_must_be_line ct_must_be_line), sl_must_be_line⟩) (c_must_be_line : PySem.W.codeIn K cd_must_be_line "must_be_line" = true) (k_must_be_line : PySem.W.keepIn K (.ref f_must_be_line) = true)
    (a_does_fall : PySem.W.nsIn K mainGlobals "does_fall" = some (some (.ref f_does_fall))) (l_does_fall : K.lookup f_does_fall = some ⟨oc_does_fall, od_does_fall, .func (PySem.W.fnOf "does_fall" "does_fall" (defArgs (top 33)) (defBody (top 33)) (defScope (top 33)) .none kV_does_fall dc_does_fall pm_does_fall an_does_fall cd_does_fall ct_does_fall), sl_does_fall⟩) (c_does_fall : PySem.W.codeIn K cd_does_fall "does_fall" = true) (k_does_fall : PySem.W.keepIn K (.ref f_does_fall) = true)
    (a_must_be_weighed : PySem.W.nsIn K mainGlobals "must_be_weighed" = some (some (.ref f_must_be_weighed))) (l_must_be_weighed : K.lookup f_must_be_weighed = some ⟨oc_must_be_weighed, od_must_be_weighed, .func (PySem.W.fnOf "must_be_weighed" "must_be_weighed" (defArgs (top 35)) (defBody (top 35)) (defScope (top 35)) .none kV_must_be_weighed dc_must_be_weighed pm_must_be_weighed an_must_be_weighed cd_must_be_weighed ct_must_be_weighed), sl_must_be_weighed⟩) (c_must_be_weighed : PySem.W.codeIn K cd_must_be_weighed "must_be_weighed" = true) (k_must_be_weighed : PySem.W.keepIn K (.ref f_must_be_weighed) = true)
    (a_must_fall : PySem.W.nsIn K mainGlobals "must_fall" = some (some (.ref f_must_fall))) (l_must_fall : K.lookup f_must_fall = some ⟨oc_must_fall, od_must_fall, .func (PySem.W.fnOf "must_fall" "must_fall" (defArgs (top 36)) (defBody (top 36)) (defScope (top 36)) .none kV_must_fall dc_must_fall pm_must_fall an_must_fall cd_must_fall ct_must_fall), sl_must_fall⟩) (c_must_fall : PySem.W.codeIn K cd_must_fall "must_fall" = true) (k_must_fall : PySem.W.keepIn K (.ref f_must_fall) = true)
    (a_lead : PySem.W.nsIn K mainGlobals "lead" = some (some (.ref f_lead))) (l_lead : K.lookup f_lead = some ⟨oc_lead, od_lead, .func (PySem.W.fnOf "lead" "lead" (defArgs (top 37)) (defBody (top 37)) (defScope (top 37)) .none kV_lead dc_lead pm_lead an_lead cd_lead ct_lead), sl_lead⟩) (c_lead : PySem.W.codeIn K cd_lead "lead" = true) (k_lead : PySem.W.keepIn K (.ref f_lead) = true)
    (a_margin : PySem.W.nsIn K mainGlobals "margin" = some (some (.ref f_margin))) (l_margin : K.lookup f_margin = some ⟨oc_margin, od_margin, .func (PySem.W.fnOf "margin" "margin" (defArgs (top 38)) (defBody (top 38)) (defScope (top 38)) .none kV_margin dc_margin pm_margin an_margin cd_margin ct_margin), sl_margin⟩) (c_margin : PySem.W.codeIn K cd_margin "margin" = true) (k_margin : PySem.W.keepIn K (.ref f_margin) = true)
    (a_beaters : PySem.W.nsIn K mainGlobals "beaters" = some (some (.ref f_beaters))) (l_beaters : K.lookup f_beaters = some ⟨oc_beaters, od_beaters, .func (PySem.W.fnOf "beaters" "beaters" (defArgs (top 39)) (defBody (top 39)) (defScope (top 39)) .none kV_beaters dc_beaters pm_beaters an_beaters cd_beaters ct_beaters), sl_beaters⟩) (c_beaters : PySem.W.codeIn K cd_beaters "beaters" = true) (k_beaters : PySem.W.keepIn K (.ref f_beaters) = true)
    (a_order_wrong : PySem.W.nsIn K mainGlobals "order_wrong" = some (some (.ref f_order_wrong))) (l_order_wrong : K.lookup f_order_wrong = some ⟨oc_order_wrong, od_order_wrong, .func (PySem.W.fnOf "order_wrong" "order_wrong" (defArgs (top 40)) (defBody (top 40)) (defScope (top 40)) .none kV_order_wrong dc_order_wrong pm_order_wrong an_order_wrong cd_order_wrong ct_order_wrong), sl_order_wrong⟩) (c_order_wrong : PySem.W.codeIn K cd_order_wrong "order_wrong" = true) (k_order_wrong : PySem.W.keepIn K (.ref f_order_wrong) = true)
    (a_ring_wrong : PySem.W.nsIn K mainGlobals "ring_wrong" = some (some (.ref f_ring_wrong))) (l_ring_wrong : K.lookup f_ring_wrong = some ⟨oc_ring_wrong, od_ring_wrong, .func (PySem.W.fnOf "ring_wrong" "ring_wrong" (defArgs (top 41)) (defBody (top 41)) (defScope (top 41)) .none kV_ring_wrong dc_ring_wrong pm_ring_wrong an_ring_wrong cd_ring_wrong ct_ring_wrong), sl_ring_wrong⟩) (c_ring_wrong : PySem.W.codeIn K cd_ring_wrong "ring_wrong" = true) (k_ring_wrong : PySem.W.keepIn K (.ref f_ring_wrong) = true)
    (a_order_judged : PySem.W.nsIn K mainGlobals "order_judged" = some (some (.ref f_order_judged))) (l_order_judged : K.lookup f_order_judged = some ⟨oc_order_judged, od_order_judged, .func (PySem.W.fnOf "order_judged" "order_judged" (defArgs (top 42)) (defBody (top 42)) (defScope (top 42)) .none kV_order_judged dc_order_judged pm_order_judged an_order_judged cd_order_judged ct_order_judged), sl_order_judged⟩) (c_order_judged : PySem.W.codeIn K cd_order_judged "order_judged" = true) (k_order_judged : PySem.W.keepIn K (.ref f_order_judged) = true)
    (a_ring_among : PySem.W.nsIn K mainGlobals "ring_among" = some (some (.ref f_ring_among))) (l_ring_among : K.lookup f_ring_among = some ⟨oc_ring_among, od_ring_among, .func (PySem.W.fnOf "ring_among" "ring_among" (defArgs (top 43)) (defBody (top 43)) (defScope (top 43)) .none kV_ring_among dc_ring_among pm_ring_among an_ring_among cd_ring_among ct_ring_among), sl_ring_among⟩) (c_ring_among : PySem.W.codeIn K cd_ring_among "ring_among" = true) (k_ring_among : PySem.W.keepIn K (.ref f_ring_among) = true)
    (a_order_of : PySem.W.nsIn K mainGlobals "order_of" = some (some (.ref f_order_of))) (l_order_of : K.lookup f_order_of = some ⟨oc_order_of, od_order_of, .func (PySem.W.fnOf "order_of" "order_of" (defArgs (top 44)) (defBody (top 44)) (defScope (top 44)) .none kV_order_of dc_order_of pm_order_of an_order_of cd_order_of ct_order_of), sl_order_of⟩) (c_order_of : PySem.W.codeIn K cd_order_of "order_of" = true) (k_order_of : PySem.W.keepIn K (.ref f_order_of) = true)
    (a_unbeaten : PySem.W.nsIn K mainGlobals "unbeaten" = some (some (.ref f_unbeaten))) (l_unbeaten : K.lookup f_unbeaten = some ⟨oc_unbeaten, od_unbeaten, .func (PySem.W.fnOf "unbeaten" "unbeaten" (defArgs (top 45)) (defBody (top 45)) (defScope (top 45)) .none kV_unbeaten dc_unbeaten pm_unbeaten an_unbeaten cd_unbeaten ct_unbeaten), sl_unbeaten⟩) (c_unbeaten : PySem.W.codeIn K cd_unbeaten "unbeaten" = true) (k_unbeaten : PySem.W.keepIn K (.ref f_unbeaten) = true)
    (a_first_half : PySem.W.nsIn K mainGlobals "first_half" = some (some (.ref f_first_half))) (l_first_half : K.lookup f_first_half = some ⟨oc_first_half, od_first_half, .func (PySem.W.fnOf "first_half" "first_half" (defArgs (top 46)) (defBody (top 46)) (defScope (top 46)) .none kV_first_half dc_first_half pm_first_half an_first_half cd_first_half ct_first_half), sl_first_half⟩) (c_first_half : PySem.W.codeIn K cd_first_half "first_half" = true) (k_first_half : PySem.W.keepIn K (.ref f_first_half) = true)
    (a_middle : PySem.W.nsIn K mainGlobals "middle" = some (some (.ref f_middle))) (l_middle : K.lookup f_middle = some ⟨oc_middle, od_middle, .func (PySem.W.fnOf "middle" "middle" (defArgs (top 47)) (defBody (top 47)) (defScope (top 47)) .none kV_middle dc_middle pm_middle an_middle cd_middle ct_middle), sl_middle⟩) (c_middle : PySem.W.codeIn K cd_middle "middle" = true) (k_middle : PySem.W.keepIn K (.ref f_middle) = true)
    (a_paid : PySem.W.nsIn K mainGlobals "paid" = some (some (.ref f_paid))) (l_paid : K.lookup f_paid = some ⟨oc_paid, od_paid, .func (PySem.W.fnOf "paid" "paid" (defArgs (top 49)) (defBody (top 49)) (defScope (top 49)) .none kV_paid dc_paid pm_paid an_paid cd_paid ct_paid), sl_paid⟩) (c_paid : PySem.W.codeIn K cd_paid "paid" = true) (k_paid : PySem.W.keepIn K (.ref f_paid) = true)
    (a_cost : PySem.W.nsIn K mainGlobals "cost" = some (some (.ref f_cost))) (l_cost : K.lookup f_cost = some ⟨oc_cost, od_cost, .func (PySem.W.fnOf "cost" "cost" (defArgs (top 50)) (defBody (top 50)) (defScope (top 50)) .none kV_cost dc_cost pm_cost an_cost cd_cost ct_cost), sl_cost⟩) (c_cost : PySem.W.codeIn K cd_cost "cost" = true) (k_cost : PySem.W.keepIn K (.ref f_cost) = true)
    (a_gain : PySem.W.nsIn K mainGlobals "gain" = some (some (.ref f_gain))) (l_gain : K.lookup f_gain = some ⟨oc_gain, od_gain, .func (PySem.W.fnOf "gain" "gain" (defArgs (top 51)) (defBody (top 51)) (defScope (top 51)) .none kV_gain dc_gain pm_gain an_gain cd_gain ct_gain), sl_gain⟩) (c_gain : PySem.W.codeIn K cd_gain "gain" = true) (k_gain : PySem.W.keepIn K (.ref f_gain) = true)
    (a_bounds : PySem.W.nsIn K mainGlobals "bounds" = some (some (.ref f_bounds))) (l_bounds : K.lookup f_bounds = some ⟨oc_bounds, od_bounds, .func (PySem.W.fnOf "bounds" "bounds" (defArgs (top 52)) (defBody (top 52)) (defScope (top 52)) .none kV_bounds dc_bounds pm_bounds an_bounds cd_bounds ct_bounds), sl_bounds⟩) (c_bounds : PySem.W.codeIn K cd_bounds "bounds" = true) (k_bounds : PySem.W.keepIn K (.ref f_bounds) = true)
    (a_filled : PySem.W.nsIn K mainGlobals "filled" = some (some (.ref f_filled))) (l_filled : K.lookup f_filled = some ⟨oc_filled, od_filled, .func (PySem.W.fnOf "filled" "filled" (defArgs (top 53)) (defBody (top 53)) (defScope (top 53)) .none kV_filled dc_filled pm_filled an_filled cd_filled ct_filled), sl_filled⟩) (c_filled : PySem.W.codeIn K cd_filled "filled" = true) (k_filled : PySem.W.keepIn K (.ref f_filled) = true)
    (a_must_be_asked : PySem.W.nsIn K mainGlobals "must_be_asked" = some (some (.ref f_must_be_asked))) (l_must_be_asked : K.lookup f_must_be_asked = some ⟨oc_must_be_asked, od_must_be_asked, .func (PySem.W.fnOf "must_be_asked" "must_be_asked" (defArgs (top 54)) (defBody (top 54)) (defScope (top 54)) .none kV_must_be_asked dc_must_be_asked pm_must_be_asked an_must_be_asked cd_must_be_asked ct_must_be_asked), sl_must_be_asked⟩) (c_must_be_asked : PySem.W.codeIn K cd_must_be_asked "must_be_asked" = true) (k_must_be_asked : PySem.W.keepIn K (.ref f_must_be_asked) = true)
    (a_last_of : PySem.W.nsIn K mainGlobals "last_of" = some (some (.ref f_last_of))) (l_last_of : K.lookup f_last_of = some ⟨oc_last_of, od_last_of, .func (PySem.W.fnOf "last_of" "last_of" (defArgs (top 55)) (defBody (top 55)) (defScope (top 55)) .none kV_last_of dc_last_of pm_last_of an_last_of cd_last_of ct_last_of), sl_last_of⟩) (c_last_of : PySem.W.codeIn K cd_last_of "last_of" = true) (k_last_of : PySem.W.keepIn K (.ref f_last_of) = true)
    (a_few : PySem.W.nsIn K mainGlobals "few" = some (some (.ref f_few))) (l_few : K.lookup f_few = some ⟨oc_few, od_few, .func (PySem.W.fnOf "few" "few" (defArgs (top 56)) (defBody (top 56)) (defScope (top 56)) .none kV_few dc_few pm_few an_few cd_few ct_few), sl_few⟩) (c_few : PySem.W.codeIn K cd_few "few" = true) (k_few : PySem.W.keepIn K (.ref f_few) = true)
    (a_are_along : PySem.W.nsIn K mainGlobals "are_along" = some (some (.ref f_are_along))) (l_are_along : K.lookup f_are_along = some ⟨oc_are_along, od_are_along, .func (PySem.W.fnOf "are_along" "are_along" (defArgs (top 57)) (defBody (top 57)) (defScope (top 57)) .none kV_are_along dc_are_along pm_are_along an_are_along cd_are_along ct_are_along), sl_are_along⟩) (c_are_along : PySem.W.codeIn K cd_are_along "are_along" = true) (k_are_along : PySem.W.keepIn K (.ref f_are_along) = true)
    (a_is_row : PySem.W.nsIn K mainGlobals "is_row" = some (some (.ref f_is_row))) (l_is_row : K.lookup f_is_row = some ⟨oc_is_row, od_is_row, .func (PySem.W.fnOf "is_row" "is_row" (defArgs (top 58)) (defBody (top 58)) (defScope (top 58)) .none kV_is_row dc_is_row pm_is_row an_is_row cd_is_row ct_is_row), sl_is_row⟩) (c_is_row : PySem.W.codeIn K cd_is_row "is_row" = true) (k_is_row : PySem.W.keepIn K (.ref f_is_row) = true)
    (a_is_table : PySem.W.nsIn K mainGlobals "is_table" = some (some (.ref f_is_table))) (l_is_table : K.lookup f_is_table = some ⟨oc_is_table, od_is_table, .func (PySem.W.fnOf "is_table" "is_table" (defArgs (top 59)) (defBody (top 59)) (defScope (top 59)) .none kV_is_table dc_is_table pm_is_table an_is_table cd_is_table ct_is_table), sl_is_table⟩) (c_is_table : PySem.W.codeIn K cd_is_table "is_table" = true) (k_is_table : PySem.W.keepIn K (.ref f_is_table) = true)
    (a_table_wrong : PySem.W.nsIn K mainGlobals "table_wrong" = some (some (.ref f_table_wrong))) (l_table_wrong : K.lookup f_table_wrong = some ⟨oc_table_wrong, od_table_wrong, .func (PySem.W.fnOf "table_wrong" "table_wrong" (defArgs (top 60)) (defBody (top 60)) (defScope (top 60)) .none kV_table_wrong dc_table_wrong pm_table_wrong an_table_wrong cd_table_wrong ct_table_wrong), sl_table_wrong⟩) (c_table_wrong : PySem.W.codeIn K cd_table_wrong "table_wrong" = true) (k_table_wrong : PySem.W.keepIn K (.ref f_table_wrong) = true)
    (a_few_judged : PySem.W.nsIn K mainGlobals "few_judged" = some (some (.ref f_few_judged))) (l_few_judged : K.lookup f_few_judged = some ⟨oc_few_judged, od_few_judged, .func (PySem.W.fnOf "few_judged" "few_judged" (defArgs (top 61)) (defBody (top 61)) (defScope (top 61)) .none kV_few_judged dc_few_judged pm_few_judged an_few_judged cd_few_judged ct_few_judged), sl_few_judged⟩) (c_few_judged : PySem.W.codeIn K cd_few_judged "few_judged" = true) (k_few_judged : PySem.W.keepIn K (.ref f_few_judged) = true)
    (a__law_whole : PySem.W.nsIn K mainGlobals "_law_whole" = some (some (.ref f__law_whole))) (l__law_whole : K.lookup f__law_whole = some ⟨oc__law_whole, od__law_whole, .func (PySem.W.fnOf "_law_whole" "_law_whole" (defArgs (top 63)) (defBody (top 63)) (defScope (top 63)) .none kV__law_whole dc__law_whole pm__law_whole an__law_whole cd__law_whole ct__law_whole), sl__law_whole⟩) (c__law_whole : PySem.W.codeIn K cd__law_whole "_law_whole" = true) (k__law_whole : PySem.W.keepIn K (.ref f__law_whole) = true)
    (a__law_draws : PySem.W.nsIn K mainGlobals "_law_draws" = some (some (.ref f__law_draws))) (l__law_draws : K.lookup f__law_draws = some ⟨oc__law_draws, od__law_draws, .func (PySem.W.fnOf "_law_draws" "_law_draws" (defArgs (top 64)) (defBody (top 64)) (defScope (top 64)) .none kV__law_draws dc__law_draws pm__law_draws an__law_draws cd__law_draws ct__law_draws), sl__law_draws⟩) (c__law_draws : PySem.W.codeIn K cd__law_draws "_law_draws" = true) (k__law_draws : PySem.W.keepIn K (.ref f__law_draws) = true)
    (a__law_names : PySem.W.nsIn K mainGlobals "_law_names" = some (some (.ref f__law_names))) (l__law_names : K.lookup f__law_names = some ⟨oc__law_names, od__law_names, .func (PySem.W.fnOf "_law_names" "_law_names" (defArgs (top 65)) (defBody (top 65)) (defScope (top 65)) .none kV__law_names dc__law_names pm__law_names an__law_names cd__law_names ct__law_names), sl__law_names⟩) (c__law_names : PySem.W.codeIn K cd__law_names "_law_names" = true) (k__law_names : PySem.W.keepIn K (.ref f__law_names) = true)
    (a__law_shuffled : PySem.W.nsIn K mainGlobals "_law_shuffled" = some (some (.ref f__law_shuffled))) (l__law_shuffled : K.lookup f__law_shuffled = some ⟨oc__law_shuffled, od__law_shuffled, .func (PySem.W.fnOf "_law_shuffled" "_law_shuffled" (defArgs (top 66)) (defBody (top 66)) (defScope (top 66)) .none kV__law_shuffled dc__law_shuffled pm__law_shuffled an__law_shuffled cd__law_shuffled ct__law_shuffled), sl__law_shuffled⟩) (c__law_shuffled : PySem.W.codeIn K cd__law_shuffled "_law_shuffled" = true) (k__law_shuffled : PySem.W.keepIn K (.ref f__law_shuffled) = true)
    (a__law_fallen : PySem.W.nsIn K mainGlobals "_law_fallen" = some (some (.ref f__law_fallen))) (l__law_fallen : K.lookup f__law_fallen = some ⟨oc__law_fallen, od__law_fallen, .func (PySem.W.fnOf "_law_fallen" "_law_fallen" (defArgs (top 67)) (defBody (top 67)) (defScope (top 67)) .none kV__law_fallen dc__law_fallen pm__law_fallen an__law_fallen cd__law_fallen ct__law_fallen), sl__law_fallen⟩) (c__law_fallen : PySem.W.codeIn K cd__law_fallen "_law_fallen" = true) (k__law_fallen : PySem.W.keepIn K (.ref f__law_fallen) = true)
    (a__law_line : PySem.W.nsIn K mainGlobals "_law_line" = some (some (.ref f__law_line))) (l__law_line : K.lookup f__law_line = some ⟨oc__law_line, od__law_line, .func (PySem.W.fnOf "_law_line" "_law_line" (defArgs (top 68)) (defBody (top 68)) (defScope (top 68)) .none kV__law_line dc__law_line pm__law_line an__law_line cd__law_line ct__law_line), sl__law_line⟩) (c__law_line : PySem.W.codeIn K cd__law_line "_law_line" = true) (k__law_line : PySem.W.keepIn K (.ref f__law_line) = true)
    (a__law_folk : PySem.W.nsIn K mainGlobals "_law_folk" = some (some (.ref f__law_folk))) (l__law_folk : K.lookup f__law_folk = some ⟨oc__law_folk, od__law_folk, .func (PySem.W.fnOf "_law_folk" "_law_folk" (defArgs (top 69)) (defBody (top 69)) (defScope (top 69)) .none kV__law_folk dc__law_folk pm__law_folk an__law_folk cd__law_folk ct__law_folk), sl__law_folk⟩) (c__law_folk : PySem.W.codeIn K cd__law_folk "_law_folk" = true) (k__law_folk : PySem.W.keepIn K (.ref f__law_folk) = true)
    (a__law_weights : PySem.W.nsIn K mainGlobals "_law_weights" = some (some (.ref f__law_weights))) (l__law_weights : K.lookup f__law_weights = some ⟨oc__law_weights, od__law_weights, .func (PySem.W.fnOf "_law_weights" "_law_weights" (defArgs (top 70)) (defBody (top 70)) (defScope (top 70)) .none kV__law_weights dc__law_weights pm__law_weights an__law_weights cd__law_weights ct__law_weights), sl__law_weights⟩) (c__law_weights : PySem.W.codeIn K cd__law_weights "_law_weights" = true) (k__law_weights : PySem.W.keepIn K (.ref f__law_weights) = true)
    (a__law_falls : PySem.W.nsIn K mainGlobals "_law_falls" = some (some (.ref f__law_falls))) (l__law_falls : K.lookup f__law_falls = some ⟨oc__law_falls, od__law_falls, .func (PySem.W.fnOf "_law_falls" "_law_falls" (defArgs (top 71)) (defBody (top 71)) (defScope (top 71)) .none kV__law_falls dc__law_falls pm__law_falls an__law_falls cd__law_falls ct__law_falls), sl__law_falls⟩) (c__law_falls : PySem.W.codeIn K cd__law_falls "_law_falls" = true) (k__law_falls : PySem.W.keepIn K (.ref f__law_falls) = true)
    (a__law_copied : PySem.W.nsIn K mainGlobals "_law_copied" = some (some (.ref f__law_copied))) (l__law_copied : K.lookup f__law_copied = some ⟨oc__law_copied, od__law_copied, .func (PySem.W.fnOf "_law_copied" "_law_copied" (defArgs (top 72)) (defBody (top 72)) (defScope (top 72)) .none kV__law_copied dc__law_copied pm__law_copied an__law_copied cd__law_copied ct__law_copied), sl__law_copied⟩) (c__law_copied : PySem.W.codeIn K cd__law_copied "_law_copied" = true) (k__law_copied : PySem.W.keepIn K (.ref f__law_copied) = true)
    (a__law_names_of : PySem.W.nsIn K mainGlobals "_law_names_of" = some (some (.ref f__law_names_of))) (l__law_names_of : K.lookup f__law_names_of = some ⟨oc__law_names_of, od__law_names_of, .func (PySem.W.fnOf "_law_names_of" "_law_names_of" (defArgs (top 73)) (defBody (top 73)) (defScope (top 73)) .none kV__law_names_of dc__law_names_of pm__law_names_of an__law_names_of cd__law_names_of ct__law_names_of), sl__law_names_of⟩) (c__law_names_of : PySem.W.codeIn K cd__law_names_of "_law_names_of" = true) (k__law_names_of : PySem.W.keepIn K (.ref f__law_names_of) = true)
    (a__law_asked : PySem.W.nsIn K mainGlobals "_law_asked" = some (some (.ref f__law_asked))) (l__law_asked : K.lookup f__law_asked = some ⟨oc__law_asked, od__law_asked, .func (PySem.W.fnOf "_law_asked" "_law_asked" (defArgs (top 74)) (defBody (top 74)) (defScope (top 74)) .none kV__law_asked dc__law_asked pm__law_asked an__law_asked cd__law_asked ct__law_asked), sl__law_asked⟩) (c__law_asked : PySem.W.codeIn K cd__law_asked "_law_asked" = true) (k__law_asked : PySem.W.keepIn K (.ref f__law_asked) = true)
    (a__law_refused : PySem.W.nsIn K mainGlobals "_law_refused" = some (some (.ref f__law_refused))) (l__law_refused : K.lookup f__law_refused = some ⟨oc__law_refused, od__law_refused, .func (PySem.W.fnOf "_law_refused" "_law_refused" (defArgs (top 75)) (defBody (top 75)) (defScope (top 75)) .none kV__law_refused dc__law_refused pm__law_refused an__law_refused cd__law_refused ct__law_refused), sl__law_refused⟩) (c__law_refused : PySem.W.codeIn K cd__law_refused "_law_refused" = true) (k__law_refused : PySem.W.keepIn K (.ref f__law_refused) = true)
    (a__law_no_folk : PySem.W.nsIn K mainGlobals "_law_no_folk" = some (some (.ref f__law_no_folk))) (l__law_no_folk : K.lookup f__law_no_folk = some ⟨oc__law_no_folk, od__law_no_folk, .func (PySem.W.fnOf "_law_no_folk" "_law_no_folk" (defArgs (top 76)) (defBody (top 76)) (defScope (top 76)) .none kV__law_no_folk dc__law_no_folk pm__law_no_folk an__law_no_folk cd__law_no_folk ct__law_no_folk), sl__law_no_folk⟩) (c__law_no_folk : PySem.W.codeIn K cd__law_no_folk "_law_no_folk" = true) (k__law_no_folk : PySem.W.keepIn K (.ref f__law_no_folk) = true)
    (a__law_no_weights : PySem.W.nsIn K mainGlobals "_law_no_weights" = some (some (.ref f__law_no_weights))) (l__law_no_weights : K.lookup f__law_no_weights = some ⟨oc__law_no_weights, od__law_no_weights, .func (PySem.W.fnOf "_law_no_weights" "_law_no_weights" (defArgs (top 77)) (defBody (top 77)) (defScope (top 77)) .none kV__law_no_weights dc__law_no_weights pm__law_no_weights an__law_no_weights cd__law_no_weights ct__law_no_weights), sl__law_no_weights⟩) (c__law_no_weights : PySem.W.codeIn K cd__law_no_weights "_law_no_weights" = true) (k__law_no_weights : PySem.W.keepIn K (.ref f__law_no_weights) = true)
    (a__law_no_line : PySem.W.nsIn K mainGlobals "_law_no_line" = some (some (.ref f__law_no_line))) (l__law_no_line : K.lookup f__law_no_line = some ⟨oc__law_no_line, od__law_no_line, .func (PySem.W.fnOf "_law_no_line" "_law_no_line" (defArgs (top 78)) (defBody (top 78)) (defScope (top 78)) .none kV__law_no_line dc__law_no_line pm__law_no_line an__law_no_line cd__law_no_line ct__law_no_line), sl__law_no_line⟩) (c__law_no_line : PySem.W.codeIn K cd__law_no_line "_law_no_line" = true) (k__law_no_line : PySem.W.keepIn K (.ref f__law_no_line) = true)
    (a_law : PySem.W.nsIn K mainGlobals "law" = some (some (.ref f_law))) (l_law : K.lookup f_law = some ⟨oc_law, od_law, .func (PySem.W.fnOf "law" "law" (defArgs (top 79)) (defBody (top 79)) (defScope (top 79)) .none kV_law dc_law pm_law an_law cd_law ct_law), sl_law⟩) (c_law : PySem.W.codeIn K cd_law "law" = true) (k_law : PySem.W.keepIn K (.ref f_law) = true)
    (z_isinstance : PySem.W.nsIn K mainGlobals "isinstance" = some none)
    (z_int : PySem.W.nsIn K mainGlobals "int" = some none)
    (z_bool : PySem.W.nsIn K mainGlobals "bool" = some none)
    (z_len : PySem.W.nsIn K mainGlobals "len" = some none)
    (z_list : PySem.W.nsIn K mainGlobals "list" = some none)
    (z_all : PySem.W.nsIn K mainGlobals "all" = some none)
    (z_set : PySem.W.nsIn K mainGlobals "set" = some none)
    (z_sorted : PySem.W.nsIn K mainGlobals "sorted" = some none)
    (z_min : PySem.W.nsIn K mainGlobals "min" = some none)
    (z_max : PySem.W.nsIn K mainGlobals "max" = some none)
    (z_enumerate : PySem.W.nsIn K mainGlobals "enumerate" = some none)
    (z_zip : PySem.W.nsIn K mainGlobals "zip" = some none)
    (z_tuple : PySem.W.nsIn K mainGlobals "tuple" = some none)
    (z_str : PySem.W.nsIn K mainGlobals "str" = some none)
    (z_sum : PySem.W.nsIn K mainGlobals "sum" = some none)
    (z_range : PySem.W.nsIn K mainGlobals "range" = some none)
    (z_ValueError : PySem.W.nsIn K mainGlobals "ValueError" = some none)
    (g_MOST_NAMES : PySem.W.nsIn K mainGlobals "MOST_NAMES" = some (some (.int 10 t_MOST_NAMES)))
    (g_MOST_HANDS : PySem.W.nsIn K mainGlobals "MOST_HANDS" = some (some (.int 20 t_MOST_HANDS)))
    (ca_NoFall : PySem.W.nsIn K mainGlobals "NoFall" = some (some (.ref C_NoFall)))
    (cb_NoFall : PySem.W.subIn K (.ref C_NoFall) (.type "BaseException") = some true)
    (ct_NoFall : PySem.W.typeIn K (.ref C_NoFall) = some (.type "type"))
    (cd_NoFall : PySem.W.hasDictIn K C_NoFall = true)
    (ca_NoFit : PySem.W.nsIn K mainGlobals "NoFit" = some (some (.ref C_NoFit)))
    (cb_NoFit : PySem.W.subIn K (.ref C_NoFit) (.type "BaseException") = some true)
    (ct_NoFit : PySem.W.typeIn K (.ref C_NoFit) = some (.type "type"))
    (cd_NoFit : PySem.W.hasDictIn K C_NoFit = true)
    (ca_NoFolk : PySem.W.nsIn K mainGlobals "NoFolk" = some (some (.ref C_NoFolk)))
    (cb_NoFolk : PySem.W.subIn K (.ref C_NoFolk) (.type "BaseException") = some true)
    (ct_NoFolk : PySem.W.typeIn K (.ref C_NoFolk) = some (.type "type"))
    (cd_NoFolk : PySem.W.hasDictIn K C_NoFolk = true)
    (ca_NoLine : PySem.W.nsIn K mainGlobals "NoLine" = some (some (.ref C_NoLine)))
    (cb_NoLine : PySem.W.subIn K (.ref C_NoLine) (.type "BaseException") = some true)
    (ct_NoLine : PySem.W.typeIn K (.ref C_NoLine) = some (.type "type"))
    (cd_NoLine : PySem.W.hasDictIn K C_NoLine = true)
    (ca_NoNames : PySem.W.nsIn K mainGlobals "NoNames" = some (some (.ref C_NoNames)))
    (cb_NoNames : PySem.W.subIn K (.ref C_NoNames) (.type "BaseException") = some true)
    (ct_NoNames : PySem.W.typeIn K (.ref C_NoNames) = some (.type "type"))
    (cd_NoNames : PySem.W.hasDictIn K C_NoNames = true)
    (ca_NoNumber : PySem.W.nsIn K mainGlobals "NoNumber" = some (some (.ref C_NoNumber)))
    (cb_NoNumber : PySem.W.subIn K (.ref C_NoNumber) (.type "BaseException") = some true)
    (ct_NoNumber : PySem.W.typeIn K (.ref C_NoNumber) = some (.type "type"))
    (cd_NoNumber : PySem.W.hasDictIn K C_NoNumber = true)
    (ca_NoWeights : PySem.W.nsIn K mainGlobals "NoWeights" = some (some (.ref C_NoWeights)))
    (cb_NoWeights : PySem.W.subIn K (.ref C_NoWeights) (.type "BaseException") = some true)
    (ct_NoWeights : PySem.W.typeIn K (.ref C_NoWeights) = some (.type "type"))
    (cd_NoWeights : PySem.W.hasDictIn K C_NoWeights = true)
    (ca_FolkError : PySem.W.nsIn K mainGlobals "FolkError" = some (some (.ref C_FolkError)))
    (cb_FolkError : PySem.W.subIn K (.ref C_FolkError) (.type "BaseException") = some true)
    (ct_FolkError : PySem.W.typeIn K (.ref C_FolkError) = some (.type "type"))
    (cd_FolkError : PySem.W.hasDictIn K C_FolkError = true)
    (ck_NoFall : PySem.W.keepIn K (.ref C_NoFall) = true)
    (cv_NoFall : PySem.W.subIn K (.ref C_NoFall) (.type "ValueError") = some true)
    (cg_NoFall : PySem.W.findIn K (.ref C_NoFall) "__getattribute__" = some (some (.builtin "BaseException.__getattribute__")))
    (ch_NoFall : PySem.W.findIn K (.ref C_NoFall) "__getattr__" = some none)
    (cc_NoFall : PySem.W.findIn K (.ref C_NoFall) "__class__" = some (some (.builtin "object.__class__")))
    (cm_NoFall : PySem.W.mroIn K C_NoFall (.type "object") = some true)
    (cf_NoFall : PySem.W.subIn K (.ref C_NoFall) (.ref C_FolkError) = some true)
    (cp_NoFall_NoFall : PySem.W.subIn K (.ref C_NoFall) (.ref C_NoFall) = some true)
    (cp_NoFall_NoFit : PySem.W.subIn K (.ref C_NoFall) (.ref C_NoFit) = some false)
    (cp_NoFall_NoFolk : PySem.W.subIn K (.ref C_NoFall) (.ref C_NoFolk) = some false)
    (cp_NoFall_NoLine : PySem.W.subIn K (.ref C_NoFall) (.ref C_NoLine) = some false)
    (cp_NoFall_NoNames : PySem.W.subIn K (.ref C_NoFall) (.ref C_NoNames) = some false)
    (cp_NoFall_NoNumber : PySem.W.subIn K (.ref C_NoFall) (.ref C_NoNumber) = some false)
    (cp_NoFall_NoWeights : PySem.W.subIn K (.ref C_NoFall) (.ref C_NoWeights) = some false)
    (cx_NoFit : PySem.W.excIn K C_NoFit [.type "ValueError", .type "Exception", .type "BaseException", .type "object"] "ValueError.__new__" = true)
    (ck_NoFit : PySem.W.keepIn K (.ref C_NoFit) = true)
    (cv_NoFit : PySem.W.subIn K (.ref C_NoFit) (.type "ValueError") = some true)
    (cg_NoFit : PySem.W.findIn K (.ref C_NoFit) "__getattribute__" = some (some (.builtin "BaseException.__getattribute__")))
    (ch_NoFit : PySem.W.findIn K (.ref C_NoFit) "__getattr__" = some none)
    (cc_NoFit : PySem.W.findIn K (.ref C_NoFit) "__class__" = some (some (.builtin "object.__class__")))
    (cm_NoFit : PySem.W.mroIn K C_NoFit (.type "object") = some true)
    (cf_NoFit : PySem.W.subIn K (.ref C_NoFit) (.ref C_FolkError) = some true)
    (cp_NoFit_NoFall : PySem.W.subIn K (.ref C_NoFit) (.ref C_NoFall) = some false)
    (cp_NoFit_NoFit : PySem.W.subIn K (.ref C_NoFit) (.ref C_NoFit) = some true)
    (cp_NoFit_NoFolk : PySem.W.subIn K (.ref C_NoFit) (.ref C_NoFolk) = some false)
    (cp_NoFit_NoLine : PySem.W.subIn K (.ref C_NoFit) (.ref C_NoLine) = some false)
    (cp_NoFit_NoNames : PySem.W.subIn K (.ref C_NoFit) (.ref C_NoNames) = some false)
    (cp_NoFit_NoNumber : PySem.W.subIn K (.ref C_NoFit) (.ref C_NoNumber) = some false)
    (cp_NoFit_NoWeights : PySem.W.subIn K (.ref C_NoFit) (.ref C_NoWeights) = some false)
    (cx_NoFolk : PySem.W.excIn K C_NoFolk [.type "ValueError", .type "Exception", .type "BaseException", .type "object"] "ValueError.__new__" = true)
    (ck_NoFolk : PySem.W.keepIn K (.ref C_NoFolk) = true)
    (cv_NoFolk : PySem.W.subIn K (.ref C_NoFolk) (.type "ValueError") = some true)
    (cg_NoFolk : PySem.W.findIn K (.ref C_NoFolk) "__getattribute__" = some (some (.builtin "BaseException.__getattribute__")))
    (ch_NoFolk : PySem.W.findIn K (.ref C_NoFolk) "__getattr__" = some none)
    (cc_NoFolk : PySem.W.findIn K (.ref C_NoFolk) "__class__" = some (some (.builtin "object.__class__")))
    (cm_NoFolk : PySem.W.mroIn K C_NoFolk (.type "object") = some true)
    (cf_NoFolk : PySem.W.subIn K (.ref C_NoFolk) (.ref C_FolkError) = some true)
    (cp_NoFolk_NoFall : PySem.W.subIn K (.ref C_NoFolk) (.ref C_NoFall) = some false)
    (cp_NoFolk_NoFit : PySem.W.subIn K (.ref C_NoFolk) (.ref C_NoFit) = some false)
    (cp_NoFolk_NoFolk : PySem.W.subIn K (.ref C_NoFolk) (.ref C_NoFolk) = some true)
    (cp_NoFolk_NoLine : PySem.W.subIn K (.ref C_NoFolk) (.ref C_NoLine) = some false)
    (cp_NoFolk_NoNames : PySem.W.subIn K (.ref C_NoFolk) (.ref C_NoNames) = some false)
    (cp_NoFolk_NoNumber : PySem.W.subIn K (.ref C_NoFolk) (.ref C_NoNumber) = some false)
    (cp_NoFolk_NoWeights : PySem.W.subIn K (.ref C_NoFolk) (.ref C_NoWeights) = some false)
    (cx_NoLine : PySem.W.excIn K C_NoLine [.type "ValueError", .type "Exception", .type "BaseException", .type "object"] "ValueError.__new__" = true)
    (ck_NoLine : PySem.W.keepIn K (.ref C_NoLine) = true)
    (cv_NoLine : PySem.W.subIn K (.ref C_NoLine) (.type "ValueError") = some true)
    (cg_NoLine : PySem.W.findIn K (.ref C_NoLine) "__getattribute__" = some (some (.builtin "BaseException.__getattribute__")))
    (ch_NoLine : PySem.W.findIn K (.ref C_NoLine) "__getattr__" = some none)
    (cc_NoLine : PySem.W.findIn K (.ref C_NoLine) "__class__" = some (some (.builtin "object.__class__")))
    (cm_NoLine : PySem.W.mroIn K C_NoLine (.type "object") = some true)
    (cf_NoLine : PySem.W.subIn K (.ref C_NoLine) (.ref C_FolkError) = some true)
    (cp_NoLine_NoFall : PySem.W.subIn K (.ref C_NoLine) (.ref C_NoFall) = some false)
    (cp_NoLine_NoFit : PySem.W.subIn K (.ref C_NoLine) (.ref C_NoFit) = some false)
    (cp_NoLine_NoFolk : PySem.W.subIn K (.ref C_NoLine) (.ref C_NoFolk) = some false)
    (cp_NoLine_NoLine : PySem.W.subIn K (.ref C_NoLine) (.ref C_NoLine) = some true)
    (cp_NoLine_NoNames : PySem.W.subIn K (.ref C_NoLine) (.ref C_NoNames) = some false)
    (cp_NoLine_NoNumber : PySem.W.subIn K (.ref C_NoLine) (.ref C_NoNumber) = some false)
    (cp_NoLine_NoWeights : PySem.W.subIn K (.ref C_NoLine) (.ref C_NoWeights) = some false)
    (cx_NoNames : PySem.W.excIn K C_NoNames [.type "ValueError", .type "Exception", .type "BaseException", .type "object"] "ValueError.__new__" = true)
    (ck_NoNames : PySem.W.keepIn K (.ref C_NoNames) = true)
    (cv_NoNames : PySem.W.subIn K (.ref C_NoNames) (.type "ValueError") = some true)
    (cg_NoNames : PySem.W.findIn K (.ref C_NoNames) "__getattribute__" = some (some (.builtin "BaseException.__getattribute__")))
    (ch_NoNames : PySem.W.findIn K (.ref C_NoNames) "__getattr__" = some none)
    (cc_NoNames : PySem.W.findIn K (.ref C_NoNames) "__class__" = some (some (.builtin "object.__class__")))
    (cm_NoNames : PySem.W.mroIn K C_NoNames (.type "object") = some true)
    (cf_NoNames : PySem.W.subIn K (.ref C_NoNames) (.ref C_FolkError) = some true)
    (cp_NoNames_NoFall : PySem.W.subIn K (.ref C_NoNames) (.ref C_NoFall) = some false)
    (cp_NoNames_NoFit : PySem.W.subIn K (.ref C_NoNames) (.ref C_NoFit) = some false)
    (cp_NoNames_NoFolk : PySem.W.subIn K (.ref C_NoNames) (.ref C_NoFolk) = some false)
    (cp_NoNames_NoLine : PySem.W.subIn K (.ref C_NoNames) (.ref C_NoLine) = some false)
    (cp_NoNames_NoNames : PySem.W.subIn K (.ref C_NoNames) (.ref C_NoNames) = some true)
    (cp_NoNames_NoNumber : PySem.W.subIn K (.ref C_NoNames) (.ref C_NoNumber) = some false)
    (cp_NoNames_NoWeights : PySem.W.subIn K (.ref C_NoNames) (.ref C_NoWeights) = some false)
    (cx_NoNumber : PySem.W.excIn K C_NoNumber [.type "ValueError", .type "Exception", .type "BaseException", .type "object"] "ValueError.__new__" = true)
    (ck_NoNumber : PySem.W.keepIn K (.ref C_NoNumber) = true)
    (cv_NoNumber : PySem.W.subIn K (.ref C_NoNumber) (.type "ValueError") = some true)
    (cg_NoNumber : PySem.W.findIn K (.ref C_NoNumber) "__getattribute__" = some (some (.builtin "BaseException.__getattribute__")))
    (ch_NoNumber : PySem.W.findIn K (.ref C_NoNumber) "__getattr__" = some none)
    (cc_NoNumber : PySem.W.findIn K (.ref C_NoNumber) "__class__" = some (some (.builtin "object.__class__")))
    (cm_NoNumber : PySem.W.mroIn K C_NoNumber (.type "object") = some true)
    (cf_NoNumber : PySem.W.subIn K (.ref C_NoNumber) (.ref C_FolkError) = some true)
    (cp_NoNumber_NoFall : PySem.W.subIn K (.ref C_NoNumber) (.ref C_NoFall) = some false)
    (cp_NoNumber_NoFit : PySem.W.subIn K (.ref C_NoNumber) (.ref C_NoFit) = some false)
    (cp_NoNumber_NoFolk : PySem.W.subIn K (.ref C_NoNumber) (.ref C_NoFolk) = some false)
    (cp_NoNumber_NoLine : PySem.W.subIn K (.ref C_NoNumber) (.ref C_NoLine) = some false)
    (cp_NoNumber_NoNames : PySem.W.subIn K (.ref C_NoNumber) (.ref C_NoNames) = some false)
    (cp_NoNumber_NoNumber : PySem.W.subIn K (.ref C_NoNumber) (.ref C_NoNumber) = some true)
    (cp_NoNumber_NoWeights : PySem.W.subIn K (.ref C_NoNumber) (.ref C_NoWeights) = some false)
    (cx_NoWeights : PySem.W.excIn K C_NoWeights [.type "ValueError", .type "Exception", .type "BaseException", .type "object"] "ValueError.__new__" = true)
    (ck_NoWeights : PySem.W.keepIn K (.ref C_NoWeights) = true)
    (cv_NoWeights : PySem.W.subIn K (.ref C_NoWeights) (.type "ValueError") = some true)
    (cg_NoWeights : PySem.W.findIn K (.ref C_NoWeights) "__getattribute__" = some (some (.builtin "BaseException.__getattribute__")))
    (ch_NoWeights : PySem.W.findIn K (.ref C_NoWeights) "__getattr__" = some none)
    (cc_NoWeights : PySem.W.findIn K (.ref C_NoWeights) "__class__" = some (some (.builtin "object.__class__")))
    (cm_NoWeights : PySem.W.mroIn K C_NoWeights (.type "object") = some true)
    (cf_NoWeights : PySem.W.subIn K (.ref C_NoWeights) (.ref C_FolkError) = some true)
    (cp_NoWeights_NoFall : PySem.W.subIn K (.ref C_NoWeights) (.ref C_NoFall) = some false)
    (cp_NoWeights_NoFit : PySem.W.subIn K (.ref C_NoWeights) (.ref C_NoFit) = some false)
    (cp_NoWeights_NoFolk : PySem.W.subIn K (.ref C_NoWeights) (.ref C_NoFolk) = some false)
    (cp_NoWeights_NoLine : PySem.W.subIn K (.ref C_NoWeights) (.ref C_NoLine) = some false)
    (cp_NoWeights_NoNames : PySem.W.subIn K (.ref C_NoWeights) (.ref C_NoNames) = some false)
    (cp_NoWeights_NoNumber : PySem.W.subIn K (.ref C_NoWeights) (.ref C_NoNumber) = some false)
    (cp_NoWeights_NoWeights : PySem.W.subIn K (.ref C_NoWeights) (.ref C_NoWeights) = some true)
    (ca_NoBack : PySem.W.nsIn K mainGlobals "NoBack" = some (some (.ref C_NoBack)))
    (ct_NoBack : PySem.W.typeIn K (.ref C_NoBack) = some (.type "type"))
    (cd_NoBack : PySem.W.hasDictIn K C_NoBack = true)
    (cp_NoFall_NoBack : PySem.W.subIn K (.ref C_NoFall) (.ref C_NoBack) = some false)
    (cp_NoFit_NoBack : PySem.W.subIn K (.ref C_NoFit) (.ref C_NoBack) = some false)
    (cp_NoFolk_NoBack : PySem.W.subIn K (.ref C_NoFolk) (.ref C_NoBack) = some false)
    (cp_NoLine_NoBack : PySem.W.subIn K (.ref C_NoLine) (.ref C_NoBack) = some false)
    (cp_NoNames_NoBack : PySem.W.subIn K (.ref C_NoNames) (.ref C_NoBack) = some false)
    (cp_NoNumber_NoBack : PySem.W.subIn K (.ref C_NoNumber) (.ref C_NoBack) = some false)
    (cp_NoWeights_NoBack : PySem.W.subIn K (.ref C_NoWeights) (.ref C_NoBack) = some false)
    (ca_NoFixed : PySem.W.nsIn K mainGlobals "NoFixed" = some (some (.ref C_NoFixed)))
    (ct_NoFixed : PySem.W.typeIn K (.ref C_NoFixed) = some (.type "type"))
    (cd_NoFixed : PySem.W.hasDictIn K C_NoFixed = true)
    (cp_NoFall_NoFixed : PySem.W.subIn K (.ref C_NoFall) (.ref C_NoFixed) = some false)
    (cp_NoFit_NoFixed : PySem.W.subIn K (.ref C_NoFit) (.ref C_NoFixed) = some false)
    (cp_NoFolk_NoFixed : PySem.W.subIn K (.ref C_NoFolk) (.ref C_NoFixed) = some false)
    (cp_NoLine_NoFixed : PySem.W.subIn K (.ref C_NoLine) (.ref C_NoFixed) = some false)
    (cp_NoNames_NoFixed : PySem.W.subIn K (.ref C_NoNames) (.ref C_NoFixed) = some false)
    (cp_NoNumber_NoFixed : PySem.W.subIn K (.ref C_NoNumber) (.ref C_NoFixed) = some false)
    (cp_NoWeights_NoFixed : PySem.W.subIn K (.ref C_NoWeights) (.ref C_NoFixed) = some false)
    (ca_NoHand : PySem.W.nsIn K mainGlobals "NoHand" = some (some (.ref C_NoHand)))
    (ct_NoHand : PySem.W.typeIn K (.ref C_NoHand) = some (.type "type"))
    (cd_NoHand : PySem.W.hasDictIn K C_NoHand = true)
    (cp_NoFall_NoHand : PySem.W.subIn K (.ref C_NoFall) (.ref C_NoHand) = some false)
    (cp_NoFit_NoHand : PySem.W.subIn K (.ref C_NoFit) (.ref C_NoHand) = some false)
    (cp_NoFolk_NoHand : PySem.W.subIn K (.ref C_NoFolk) (.ref C_NoHand) = some false)
    (cp_NoLine_NoHand : PySem.W.subIn K (.ref C_NoLine) (.ref C_NoHand) = some false)
    (cp_NoNames_NoHand : PySem.W.subIn K (.ref C_NoNames) (.ref C_NoHand) = some false)
    (cp_NoNumber_NoHand : PySem.W.subIn K (.ref C_NoNumber) (.ref C_NoHand) = some false)
    (cp_NoWeights_NoHand : PySem.W.subIn K (.ref C_NoWeights) (.ref C_NoHand) = some false)
    (ca_NoPaper : PySem.W.nsIn K mainGlobals "NoPaper" = some (some (.ref C_NoPaper)))
    (ct_NoPaper : PySem.W.typeIn K (.ref C_NoPaper) = some (.type "type"))
    (cd_NoPaper : PySem.W.hasDictIn K C_NoPaper = true)
    (cp_NoFall_NoPaper : PySem.W.subIn K (.ref C_NoFall) (.ref C_NoPaper) = some false)
    (cp_NoFit_NoPaper : PySem.W.subIn K (.ref C_NoFit) (.ref C_NoPaper) = some false)
    (cp_NoFolk_NoPaper : PySem.W.subIn K (.ref C_NoFolk) (.ref C_NoPaper) = some false)
    (cp_NoLine_NoPaper : PySem.W.subIn K (.ref C_NoLine) (.ref C_NoPaper) = some false)
    (cp_NoNames_NoPaper : PySem.W.subIn K (.ref C_NoNames) (.ref C_NoPaper) = some false)
    (cp_NoNumber_NoPaper : PySem.W.subIn K (.ref C_NoNumber) (.ref C_NoPaper) = some false)
    (cp_NoWeights_NoPaper : PySem.W.subIn K (.ref C_NoWeights) (.ref C_NoPaper) = some false)
    (ca_NoRanking : PySem.W.nsIn K mainGlobals "NoRanking" = some (some (.ref C_NoRanking)))
    (ct_NoRanking : PySem.W.typeIn K (.ref C_NoRanking) = some (.type "type"))
    (cd_NoRanking : PySem.W.hasDictIn K C_NoRanking = true)
    (cp_NoFall_NoRanking : PySem.W.subIn K (.ref C_NoFall) (.ref C_NoRanking) = some false)
    (cp_NoFit_NoRanking : PySem.W.subIn K (.ref C_NoFit) (.ref C_NoRanking) = some false)
    (cp_NoFolk_NoRanking : PySem.W.subIn K (.ref C_NoFolk) (.ref C_NoRanking) = some false)
    (cp_NoLine_NoRanking : PySem.W.subIn K (.ref C_NoLine) (.ref C_NoRanking) = some false)
    (cp_NoNames_NoRanking : PySem.W.subIn K (.ref C_NoNames) (.ref C_NoRanking) = some false)
    (cp_NoNumber_NoRanking : PySem.W.subIn K (.ref C_NoNumber) (.ref C_NoRanking) = some false)
    (cp_NoWeights_NoRanking : PySem.W.subIn K (.ref C_NoWeights) (.ref C_NoRanking) = some false)
    (ca_NoRow : PySem.W.nsIn K mainGlobals "NoRow" = some (some (.ref C_NoRow)))
    (ct_NoRow : PySem.W.typeIn K (.ref C_NoRow) = some (.type "type"))
    (cd_NoRow : PySem.W.hasDictIn K C_NoRow = true)
    (cp_NoFall_NoRow : PySem.W.subIn K (.ref C_NoFall) (.ref C_NoRow) = some false)
    (cp_NoFit_NoRow : PySem.W.subIn K (.ref C_NoFit) (.ref C_NoRow) = some false)
    (cp_NoFolk_NoRow : PySem.W.subIn K (.ref C_NoFolk) (.ref C_NoRow) = some false)
    (cp_NoLine_NoRow : PySem.W.subIn K (.ref C_NoLine) (.ref C_NoRow) = some false)
    (cp_NoNames_NoRow : PySem.W.subIn K (.ref C_NoNames) (.ref C_NoRow) = some false)
    (cp_NoNumber_NoRow : PySem.W.subIn K (.ref C_NoNumber) (.ref C_NoRow) = some false)
    (cp_NoWeights_NoRow : PySem.W.subIn K (.ref C_NoWeights) (.ref C_NoRow) = some false)
    (ca_NoRule : PySem.W.nsIn K mainGlobals "NoRule" = some (some (.ref C_NoRule)))
    (ct_NoRule : PySem.W.typeIn K (.ref C_NoRule) = some (.type "type"))
    (cd_NoRule : PySem.W.hasDictIn K C_NoRule = true)
    (cp_NoFall_NoRule : PySem.W.subIn K (.ref C_NoFall) (.ref C_NoRule) = some false)
    (cp_NoFit_NoRule : PySem.W.subIn K (.ref C_NoFit) (.ref C_NoRule) = some false)
    (cp_NoFolk_NoRule : PySem.W.subIn K (.ref C_NoFolk) (.ref C_NoRule) = some false)
    (cp_NoLine_NoRule : PySem.W.subIn K (.ref C_NoLine) (.ref C_NoRule) = some false)
    (cp_NoNames_NoRule : PySem.W.subIn K (.ref C_NoNames) (.ref C_NoRule) = some false)
    (cp_NoNumber_NoRule : PySem.W.subIn K (.ref C_NoNumber) (.ref C_NoRule) = some false)
    (cp_NoWeights_NoRule : PySem.W.subIn K (.ref C_NoWeights) (.ref C_NoRule) = some false)
    (ca_NoText : PySem.W.nsIn K mainGlobals "NoText" = some (some (.ref C_NoText)))
    (ct_NoText : PySem.W.typeIn K (.ref C_NoText) = some (.type "type"))
    (cd_NoText : PySem.W.hasDictIn K C_NoText = true)
    (cp_NoFall_NoText : PySem.W.subIn K (.ref C_NoFall) (.ref C_NoText) = some false)
    (cp_NoFit_NoText : PySem.W.subIn K (.ref C_NoFit) (.ref C_NoText) = some false)
    (cp_NoFolk_NoText : PySem.W.subIn K (.ref C_NoFolk) (.ref C_NoText) = some false)
    (cp_NoLine_NoText : PySem.W.subIn K (.ref C_NoLine) (.ref C_NoText) = some false)
    (cp_NoNames_NoText : PySem.W.subIn K (.ref C_NoNames) (.ref C_NoText) = some false)
    (cp_NoNumber_NoText : PySem.W.subIn K (.ref C_NoNumber) (.ref C_NoText) = some false)
    (cp_NoWeights_NoText : PySem.W.subIn K (.ref C_NoWeights) (.ref C_NoText) = some false)
    (ca_NoTitle : PySem.W.nsIn K mainGlobals "NoTitle" = some (some (.ref C_NoTitle)))
    (ct_NoTitle : PySem.W.typeIn K (.ref C_NoTitle) = some (.type "type"))
    (cd_NoTitle : PySem.W.hasDictIn K C_NoTitle = true)
    (cp_NoFall_NoTitle : PySem.W.subIn K (.ref C_NoFall) (.ref C_NoTitle) = some false)
    (cp_NoFit_NoTitle : PySem.W.subIn K (.ref C_NoFit) (.ref C_NoTitle) = some false)
    (cp_NoFolk_NoTitle : PySem.W.subIn K (.ref C_NoFolk) (.ref C_NoTitle) = some false)
    (cp_NoLine_NoTitle : PySem.W.subIn K (.ref C_NoLine) (.ref C_NoTitle) = some false)
    (cp_NoNames_NoTitle : PySem.W.subIn K (.ref C_NoNames) (.ref C_NoTitle) = some false)
    (cp_NoNumber_NoTitle : PySem.W.subIn K (.ref C_NoNumber) (.ref C_NoTitle) = some false)
    (cp_NoWeights_NoTitle : PySem.W.subIn K (.ref C_NoWeights) (.ref C_NoTitle) = some false)
    (ca_NoTops : PySem.W.nsIn K mainGlobals "NoTops" = some (some (.ref C_NoTops)))
    (ct_NoTops : PySem.W.typeIn K (.ref C_NoTops) = some (.type "type"))
    (cd_NoTops : PySem.W.hasDictIn K C_NoTops = true)
    (cp_NoFall_NoTops : PySem.W.subIn K (.ref C_NoFall) (.ref C_NoTops) = some false)
    (cp_NoFit_NoTops : PySem.W.subIn K (.ref C_NoFit) (.ref C_NoTops) = some false)
    (cp_NoFolk_NoTops : PySem.W.subIn K (.ref C_NoFolk) (.ref C_NoTops) = some false)
    (cp_NoLine_NoTops : PySem.W.subIn K (.ref C_NoLine) (.ref C_NoTops) = some false)
    (cp_NoNames_NoTops : PySem.W.subIn K (.ref C_NoNames) (.ref C_NoTops) = some false)
    (cp_NoNumber_NoTops : PySem.W.subIn K (.ref C_NoNumber) (.ref C_NoTops) = some false)
    (cp_NoWeights_NoTops : PySem.W.subIn K (.ref C_NoWeights) (.ref C_NoTops) = some false)
    (ca_NoTree : PySem.W.nsIn K mainGlobals "NoTree" = some (some (.ref C_NoTree)))
    (ct_NoTree : PySem.W.typeIn K (.ref C_NoTree) = some (.type "type"))
    (cd_NoTree : PySem.W.hasDictIn K C_NoTree = true)
    (cp_NoFall_NoTree : PySem.W.subIn K (.ref C_NoFall) (.ref C_NoTree) = some false)
    (cp_NoFit_NoTree : PySem.W.subIn K (.ref C_NoFit) (.ref C_NoTree) = some false)
    (cp_NoFolk_NoTree : PySem.W.subIn K (.ref C_NoFolk) (.ref C_NoTree) = some false)
    (cp_NoLine_NoTree : PySem.W.subIn K (.ref C_NoLine) (.ref C_NoTree) = some false)
    (cp_NoNames_NoTree : PySem.W.subIn K (.ref C_NoNames) (.ref C_NoTree) = some false)
    (cp_NoNumber_NoTree : PySem.W.subIn K (.ref C_NoNumber) (.ref C_NoTree) = some false)
    (cp_NoWeights_NoTree : PySem.W.subIn K (.ref C_NoWeights) (.ref C_NoTree) = some false)
    (ca_TooGreat : PySem.W.nsIn K mainGlobals "TooGreat" = some (some (.ref C_TooGreat)))
    (ct_TooGreat : PySem.W.typeIn K (.ref C_TooGreat) = some (.type "type"))
    (cd_TooGreat : PySem.W.hasDictIn K C_TooGreat = true)
    (cp_NoFall_TooGreat : PySem.W.subIn K (.ref C_NoFall) (.ref C_TooGreat) = some false)
    (cp_NoFit_TooGreat : PySem.W.subIn K (.ref C_NoFit) (.ref C_TooGreat) = some false)
    (cp_NoFolk_TooGreat : PySem.W.subIn K (.ref C_NoFolk) (.ref C_TooGreat) = some false)
    (cp_NoLine_TooGreat : PySem.W.subIn K (.ref C_NoLine) (.ref C_TooGreat) = some false)
    (cp_NoNames_TooGreat : PySem.W.subIn K (.ref C_NoNames) (.ref C_TooGreat) = some false)
    (cp_NoNumber_TooGreat : PySem.W.subIn K (.ref C_NoNumber) (.ref C_TooGreat) = some false)
    (cp_NoWeights_TooGreat : PySem.W.subIn K (.ref C_NoWeights) (.ref C_TooGreat) = some false)
    (co_NoFall : K.lookup C_NoFall = some (excClassObj nm_NoFall qn_NoFall C_NoFall N_NoFall bs_NoFall bm_NoFall true sn_NoFall sub_NoFall ab_NoFall col_NoFall dd_NoFall k0_NoFall k1_NoFall k2_NoFall k3_NoFall k5_NoFall "ValueError.__new__"))
    (gk_NoFall : PySem.HandSPX.refsVE bm_NoFall = true)
    (cs_NoFall : PySem.W.findIn K (.ref C_NoFall) "__setattr__" = some (some (.builtin "object.__setattr__")))
    (cn_NoFall : PySem.W.findIn K (.ref C_NoFall) "hand" = some none)
    (ci_NoFall : PySem.W.findIn K (.ref C_NoFall) "__init__" = some (some (.ref fi_NoFall)))
    (cy_NoFall : PySem.W.typeIn K (.ref fi_NoFall) = some (.type "function"))
    (cl_NoFall : K.lookup fi_NoFall = some ⟨oc_NoFall, od_NoFall, .func (PySem.W.fnOf "__init__" "NoFall.__init__" (defArgs (inSt (top 16))) (defBody (inSt (top 16))) (defScope (inSt (top 16))) .none kV_NoFall dc_NoFall pm_NoFall an_NoFall cd2_NoFall ct2_NoFall), sl_NoFall⟩)
    (cc2_NoFall : PySem.W.codeIn K cd2_NoFall "NoFall.__init__" = true)
    (ck2_NoFall : PySem.W.keepIn K (.ref fi_NoFall) = true)
    (cr_F : PySem.W.readsIn K C_FolkError (.type "type") = true)
    (cg_F : PySem.W.specialIn K (.ref C_FolkError) "__getattribute__" = some (some (.builtin "type.__getattribute__")))
    (cf_F : PySem.W.findCls K (.ref C_FolkError) (.type "type") "__init__" = some (.val (.builtin "ValueError.__init__")))
    (c0_s : PySem.W.specialIn K (.builtin "object.__class__") "__get__" = some (some (.builtin "getset_descriptor.__get__")))
    (c0_t : PySem.W.takesIn K (.builtin "object.__class__") = some true) :
    ∃ fd : FuncData, (∀ (s : Shared) (v : Value), BindsTo s fd ⟨[v], []⟩ [("_law_script", v)]) ∧ ∀ base : Heap, K.In base → base.Ns mainGlobals mg → FnG P w K mg base (L2.CX P w) 11 fa fd ["_law_script"] (spLaw K) := by
  have E_NoFall : ExG K mg "NoFall" := exg_mk X G ca_NoFall (fun h _ => absurd rfl h) ck_NoFall cb_NoFall ct_NoFall cv_NoFall cd_NoFall cg_NoFall ch_NoFall cc_NoFall cm_NoFall c0_s c0_t
  have E_NoFit : ExG K mg "NoFit" := exg_mk X G ca_NoFit (fun _ _ => cx_NoFit) ck_NoFit cb_NoFit ct_NoFit cv_NoFit cd_NoFit cg_NoFit ch_NoFit cc_NoFit cm_NoFit c0_s c0_t
  have E_NoFolk : ExG K mg "NoFolk" := exg_mk X G ca_NoFolk (fun _ _ => cx_NoFolk) ck_NoFolk cb_NoFolk ct_NoFolk cv_NoFolk cd_NoFolk cg_NoFolk ch_NoFolk cc_NoFolk cm_NoFolk c0_s c0_t
  have E_NoLine : ExG K mg "NoLine" := exg_mk X G ca_NoLine (fun _ _ => cx_NoLine) ck_NoLine cb_NoLine ct_NoLine cv_NoLine cd_NoLine cg_NoLine ch_NoLine cc_NoLine cm_NoLine c0_s c0_t
  have E_NoNames : ExG K mg "NoNames" := exg_mk X G ca_NoNames (fun _ _ => cx_NoNames) ck_NoNames cb_NoNames ct_NoNames cv_NoNames cd_NoNames cg_NoNames ch_NoNames cc_NoNames cm_NoNames c0_s c0_t
  have E_NoNumber : ExG K mg "NoNumber" := exg_mk X G ca_NoNumber (fun _ _ => cx_NoNumber) ck_NoNumber cb_NoNumber ct_NoNumber cv_NoNumber cd_NoNumber cg_NoNumber ch_NoNumber cc_NoNumber cm_NoNumber c0_s c0_t
  have E_NoWeights : ExG K mg "NoWeights" := exg_mk X G ca_NoWeights (fun _ _ => cx_NoWeights) ck_NoWeights cb_NoWeights ct_NoWeights cv_NoWeights cd_NoWeights cg_NoWeights ch_NoWeights cc_NoWeights cm_NoWeights c0_s c0_t
  have T : Txt K mg :=
    { b_isinstance := PySem.W.mg_none_of X G z_isinstance
      b_int := PySem.W.mg_none_of X G z_int
      b_bool := PySem.W.mg_none_of X G z_bool
      b_len := PySem.W.mg_none_of X G z_len
      b_list := PySem.W.mg_none_of X G z_list
      b_all := PySem.W.mg_none_of X G z_all
      b_set := PySem.W.mg_none_of X G z_set
      b_sorted := PySem.W.mg_none_of X G z_sorted
      b_min := PySem.W.mg_none_of X G z_min
      b_max := PySem.W.mg_none_of X G z_max
      b_enumerate := PySem.W.mg_none_of X G z_enumerate
      b_zip := PySem.W.mg_none_of X G z_zip
      b_tuple := PySem.W.mg_none_of X G z_tuple
      b_str := PySem.W.mg_none_of X G z_str
      b_sum := PySem.W.mg_none_of X G z_sum
      b_range := PySem.W.mg_none_of X G z_range
      b_ValueError := PySem.W.mg_none_of X G z_ValueError
      c_MOST_NAMES := ⟨_, PySem.W.mg_of X G g_MOST_NAMES⟩
      c_MOST_HANDS := ⟨_, PySem.W.mg_of X G g_MOST_HANDS⟩
      exc := ⟨by intro n hn; simp only [List.mem_cons, List.not_mem_nil, or_false] at hn; rcases hn with rfl | rfl | rfl | rfl | rfl | rfl | rfl; exact E_NoFall; exact E_NoFit; exact E_NoFolk; exact E_NoLine; exact E_NoNames; exact E_NoNumber; exact E_NoWeights, by intro n hn; simp only [List.mem_cons, List.not_mem_nil, or_false] at hn; rcases hn with rfl | rfl | rfl | rfl | rfl | rfl | rfl; exact top_mk ca_NoFall ca_FolkError cb_FolkError cd_FolkError ct_FolkError cf_NoFall; exact top_mk ca_NoFit ca_FolkError cb_FolkError cd_FolkError ct_FolkError cf_NoFit; exact top_mk ca_NoFolk ca_FolkError cb_FolkError cd_FolkError ct_FolkError cf_NoFolk; exact top_mk ca_NoLine ca_FolkError cb_FolkError cd_FolkError ct_FolkError cf_NoLine; exact top_mk ca_NoNames ca_FolkError cb_FolkError cd_FolkError ct_FolkError cf_NoNames; exact top_mk ca_NoNumber ca_FolkError cb_FolkError cd_FolkError ct_FolkError cf_NoNumber; exact top_mk ca_NoWeights ca_FolkError cb_FolkError cd_FolkError ct_FolkError cf_NoWeights, by intro n hn; simp only [List.mem_cons, List.not_mem_nil, or_false] at hn; rcases hn with rfl | rfl | rfl | rfl | rfl | rfl | rfl; (intro m hm; simp only [List.mem_cons, List.not_mem_nil, or_false] at hm; rcases hm with rfl | rfl | rfl | rfl | rfl | rfl | rfl; exact two_eq; exact two_mk ca_NoFall ca_NoFit cp_NoFall_NoFit cp_NoFall_NoFall cd_NoFit ct_NoFit (by decide); exact two_mk ca_NoFall ca_NoFolk cp_NoFall_NoFolk cp_NoFall_NoFall cd_NoFolk ct_NoFolk (by decide); exact two_mk ca_NoFall ca_NoLine cp_NoFall_NoLine cp_NoFall_NoFall cd_NoLine ct_NoLine (by decide); exact two_mk ca_NoFall ca_NoNames cp_NoFall_NoNames cp_NoFall_NoFall cd_NoNames ct_NoNames (by decide); exact two_mk ca_NoFall ca_NoNumber cp_NoFall_NoNumber cp_NoFall_NoFall cd_NoNumber ct_NoNumber (by decide); exact two_mk ca_NoFall ca_NoWeights cp_NoFall_NoWeights cp_NoFall_NoFall cd_NoWeights ct_NoWeights (by decide)); (intro m hm; simp only [List.mem_cons, List.not_mem_nil, or_false] at hm; rcases hm with rfl | rfl | rfl | rfl | rfl | rfl | rfl; exact two_mk ca_NoFit ca_NoFall cp_NoFit_NoFall cp_NoFit_NoFit cd_NoFall ct_NoFall (by decide); exact two_eq; exact two_mk ca_NoFit ca_NoFolk cp_NoFit_NoFolk cp_NoFit_NoFit cd_NoFolk ct_NoFolk (by decide); exact two_mk ca_NoFit ca_NoLine cp_NoFit_NoLine cp_NoFit_NoFit cd_NoLine ct_NoLine (by decide); exact two_mk ca_NoFit ca_NoNames cp_NoFit_NoNames cp_NoFit_NoFit cd_NoNames ct_NoNames (by decide); exact two_mk ca_NoFit ca_NoNumber cp_NoFit_NoNumber cp_NoFit_NoFit cd_NoNumber ct_NoNumber (by decide); exact two_mk ca_NoFit ca_NoWeights cp_NoFit_NoWeights cp_NoFit_NoFit cd_NoWeights ct_NoWeights (by decide)); (intro m hm; simp only [List.mem_cons, List.not_mem_nil, or_false] at hm; rcases hm with rfl | rfl | rfl | rfl | rfl | rfl | rfl; exact two_mk ca_NoFolk ca_NoFall cp_NoFolk_NoFall cp_NoFolk_NoFolk cd_NoFall ct_NoFall (by decide); exact two_mk ca_NoFolk ca_NoFit cp_NoFolk_NoFit cp_NoFolk_NoFolk cd_NoFit ct_NoFit (by decide); exact two_eq; exact two_mk ca_NoFolk ca_NoLine cp_NoFolk_NoLine cp_NoFolk_NoFolk cd_NoLine ct_NoLine (by decide); exact two_mk ca_NoFolk ca_NoNames cp_NoFolk_NoNames cp_NoFolk_NoFolk cd_NoNames ct_NoNames (by decide); exact two_mk ca_NoFolk ca_NoNumber cp_NoFolk_NoNumber cp_NoFolk_NoFolk cd_NoNumber ct_NoNumber (by decide); exact two_mk ca_NoFolk ca_NoWeights cp_NoFolk_NoWeights cp_NoFolk_NoFolk cd_NoWeights ct_NoWeights (by decide)); (intro m hm; simp only [List.mem_cons, List.not_mem_nil, or_false] at hm; rcases hm with rfl | rfl | rfl | rfl | rfl | rfl | rfl; exact two_mk ca_NoLine ca_NoFall cp_NoLine_NoFall cp_NoLine_NoLine cd_NoFall ct_NoFall (by decide); exact two_mk ca_NoLine ca_NoFit cp_NoLine_NoFit cp_NoLine_NoLine cd_NoFit ct_NoFit (by decide); exact two_mk ca_NoLine ca_NoFolk cp_NoLine_NoFolk cp_NoLine_NoLine cd_NoFolk ct_NoFolk (by decide); exact two_eq; exact two_mk ca_NoLine ca_NoNames cp_NoLine_NoNames cp_NoLine_NoLine cd_NoNames ct_NoNames (by decide); exact two_mk ca_NoLine ca_NoNumber cp_NoLine_NoNumber cp_NoLine_NoLine cd_NoNumber ct_NoNumber (by decide); exact two_mk ca_NoLine ca_NoWeights cp_NoLine_NoWeights cp_NoLine_NoLine cd_NoWeights ct_NoWeights (by decide)); (intro m hm; simp only [List.mem_cons, List.not_mem_nil, or_false] at hm; rcases hm with rfl | rfl | rfl | rfl | rfl | rfl | rfl; exact two_mk ca_NoNames ca_NoFall cp_NoNames_NoFall cp_NoNames_NoNames cd_NoFall ct_NoFall (by decide); exact two_mk ca_NoNames ca_NoFit cp_NoNames_NoFit cp_NoNames_NoNames cd_NoFit ct_NoFit (by decide); exact two_mk ca_NoNames ca_NoFolk cp_NoNames_NoFolk cp_NoNames_NoNames cd_NoFolk ct_NoFolk (by decide); exact two_mk ca_NoNames ca_NoLine cp_NoNames_NoLine cp_NoNames_NoNames cd_NoLine ct_NoLine (by decide); exact two_eq; exact two_mk ca_NoNames ca_NoNumber cp_NoNames_NoNumber cp_NoNames_NoNames cd_NoNumber ct_NoNumber (by decide); exact two_mk ca_NoNames ca_NoWeights cp_NoNames_NoWeights cp_NoNames_NoNames cd_NoWeights ct_NoWeights (by decide)); (intro m hm; simp only [List.mem_cons, List.not_mem_nil, or_false] at hm; rcases hm with rfl | rfl | rfl | rfl | rfl | rfl | rfl; exact two_mk ca_NoNumber ca_NoFall cp_NoNumber_NoFall cp_NoNumber_NoNumber cd_NoFall ct_NoFall (by decide); exact two_mk ca_NoNumber ca_NoFit cp_NoNumber_NoFit cp_NoNumber_NoNumber cd_NoFit ct_NoFit (by decide); exact two_mk ca_NoNumber ca_NoFolk cp_NoNumber_NoFolk cp_NoNumber_NoNumber cd_NoFolk ct_NoFolk (by decide); exact two_mk ca_NoNumber ca_NoLine cp_NoNumber_NoLine cp_NoNumber_NoNumber cd_NoLine ct_NoLine (by decide); exact two_mk ca_NoNumber ca_NoNames cp_NoNumber_NoNames cp_NoNumber_NoNumber cd_NoNames ct_NoNames (by decide); exact two_eq; exact two_mk ca_NoNumber ca_NoWeights cp_NoNumber_NoWeights cp_NoNumber_NoNumber cd_NoWeights ct_NoWeights (by decide)); (intro m hm; simp only [List.mem_cons, List.not_mem_nil, or_false] at hm; rcases hm with rfl | rfl | rfl | rfl | rfl | rfl | rfl; exact two_mk ca_NoWeights ca_NoFall cp_NoWeights_NoFall cp_NoWeights_NoWeights cd_NoFall ct_NoFall (by decide); exact two_mk ca_NoWeights ca_NoFit cp_NoWeights_NoFit cp_NoWeights_NoWeights cd_NoFit ct_NoFit (by decide); exact two_mk ca_NoWeights ca_NoFolk cp_NoWeights_NoFolk cp_NoWeights_NoWeights cd_NoFolk ct_NoFolk (by decide); exact two_mk ca_NoWeights ca_NoLine cp_NoWeights_NoLine cp_NoWeights_NoWeights cd_NoLine ct_NoLine (by decide); exact two_mk ca_NoWeights ca_NoNames cp_NoWeights_NoNames cp_NoWeights_NoWeights cd_NoNames ct_NoNames (by decide); exact two_mk ca_NoWeights ca_NoNumber cp_NoWeights_NoNumber cp_NoWeights_NoWeights cd_NoNumber ct_NoNumber (by decide); exact two_eq), mgF_mk X G ca_FolkError⟩
      ox_NoFall := ox_mk X G rfl ca_NoFall co_NoFall gk_NoFall cs_NoFall cb_NoFall ct_NoFall ck_NoFall cn_NoFall ci_NoFall cy_NoFall cl_NoFall cc2_NoFall ck2_NoFall (fun _ _ _ _ _ _ us hl => match us, hl with | [_, _], _ => rfl) ca_FolkError cr_F cg_F cf_F
      exy_NoBack := ⟨gY_mk X G ca_NoBack, by intro n hn; simp only [List.mem_cons, List.not_mem_nil, or_false] at hn; rcases hn with rfl | rfl | rfl | rfl | rfl | rfl | rfl; exact two2_mk ca_NoFall ca_NoBack cp_NoFall_NoBack cp_NoFall_NoFall cd_NoBack ct_NoBack; exact two2_mk ca_NoFit ca_NoBack cp_NoFit_NoBack cp_NoFit_NoFit cd_NoBack ct_NoBack; exact two2_mk ca_NoFolk ca_NoBack cp_NoFolk_NoBack cp_NoFolk_NoFolk cd_NoBack ct_NoBack; exact two2_mk ca_NoLine ca_NoBack cp_NoLine_NoBack cp_NoLine_NoLine cd_NoBack ct_NoBack; exact two2_mk ca_NoNames ca_NoBack cp_NoNames_NoBack cp_NoNames_NoNames cd_NoBack ct_NoBack; exact two2_mk ca_NoNumber ca_NoBack cp_NoNumber_NoBack cp_NoNumber_NoNumber cd_NoBack ct_NoBack; exact two2_mk ca_NoWeights ca_NoBack cp_NoWeights_NoBack cp_NoWeights_NoWeights cd_NoBack ct_NoBack⟩
      exy_NoFixed := ⟨gY_mk X G ca_NoFixed, by intro n hn; simp only [List.mem_cons, List.not_mem_nil, or_false] at hn; rcases hn with rfl | rfl | rfl | rfl | rfl | rfl | rfl; exact two2_mk ca_NoFall ca_NoFixed cp_NoFall_NoFixed cp_NoFall_NoFall cd_NoFixed ct_NoFixed; exact two2_mk ca_NoFit ca_NoFixed cp_NoFit_NoFixed cp_NoFit_NoFit cd_NoFixed ct_NoFixed; exact two2_mk ca_NoFolk ca_NoFixed cp_NoFolk_NoFixed cp_NoFolk_NoFolk cd_NoFixed ct_NoFixed; exact two2_mk ca_NoLine ca_NoFixed cp_NoLine_NoFixed cp_NoLine_NoLine cd_NoFixed ct_NoFixed; exact two2_mk ca_NoNames ca_NoFixed cp_NoNames_NoFixed cp_NoNames_NoNames cd_NoFixed ct_NoFixed; exact two2_mk ca_NoNumber ca_NoFixed cp_NoNumber_NoFixed cp_NoNumber_NoNumber cd_NoFixed ct_NoFixed; exact two2_mk ca_NoWeights ca_NoFixed cp_NoWeights_NoFixed cp_NoWeights_NoWeights cd_NoFixed ct_NoFixed⟩
      exy_NoHand := ⟨gY_mk X G ca_NoHand, by intro n hn; simp only [List.mem_cons, List.not_mem_nil, or_false] at hn; rcases hn with rfl | rfl | rfl | rfl | rfl | rfl | rfl; exact two2_mk ca_NoFall ca_NoHand cp_NoFall_NoHand cp_NoFall_NoFall cd_NoHand ct_NoHand; exact two2_mk ca_NoFit ca_NoHand cp_NoFit_NoHand cp_NoFit_NoFit cd_NoHand ct_NoHand; exact two2_mk ca_NoFolk ca_NoHand cp_NoFolk_NoHand cp_NoFolk_NoFolk cd_NoHand ct_NoHand; exact two2_mk ca_NoLine ca_NoHand cp_NoLine_NoHand cp_NoLine_NoLine cd_NoHand ct_NoHand; exact two2_mk ca_NoNames ca_NoHand cp_NoNames_NoHand cp_NoNames_NoNames cd_NoHand ct_NoHand; exact two2_mk ca_NoNumber ca_NoHand cp_NoNumber_NoHand cp_NoNumber_NoNumber cd_NoHand ct_NoHand; exact two2_mk ca_NoWeights ca_NoHand cp_NoWeights_NoHand cp_NoWeights_NoWeights cd_NoHand ct_NoHand⟩
      exy_NoPaper := ⟨gY_mk X G ca_NoPaper, by intro n hn; simp only [List.mem_cons, List.not_mem_nil, or_false] at hn; rcases hn with rfl | rfl | rfl | rfl | rfl | rfl | rfl; exact two2_mk ca_NoFall ca_NoPaper cp_NoFall_NoPaper cp_NoFall_NoFall cd_NoPaper ct_NoPaper; exact two2_mk ca_NoFit ca_NoPaper cp_NoFit_NoPaper cp_NoFit_NoFit cd_NoPaper ct_NoPaper; exact two2_mk ca_NoFolk ca_NoPaper cp_NoFolk_NoPaper cp_NoFolk_NoFolk cd_NoPaper ct_NoPaper; exact two2_mk ca_NoLine ca_NoPaper cp_NoLine_NoPaper cp_NoLine_NoLine cd_NoPaper ct_NoPaper; exact two2_mk ca_NoNames ca_NoPaper cp_NoNames_NoPaper cp_NoNames_NoNames cd_NoPaper ct_NoPaper; exact two2_mk ca_NoNumber ca_NoPaper cp_NoNumber_NoPaper cp_NoNumber_NoNumber cd_NoPaper ct_NoPaper; exact two2_mk ca_NoWeights ca_NoPaper cp_NoWeights_NoPaper cp_NoWeights_NoWeights cd_NoPaper ct_NoPaper⟩
      exy_NoRanking := ⟨gY_mk X G ca_NoRanking, by intro n hn; simp only [List.mem_cons, List.not_mem_nil, or_false] at hn; rcases hn with rfl | rfl | rfl | rfl | rfl | rfl | rfl; exact two2_mk ca_NoFall ca_NoRanking cp_NoFall_NoRanking cp_NoFall_NoFall cd_NoRanking ct_NoRanking; exact two2_mk ca_NoFit ca_NoRanking cp_NoFit_NoRanking cp_NoFit_NoFit cd_NoRanking ct_NoRanking; exact two2_mk ca_NoFolk ca_NoRanking cp_NoFolk_NoRanking cp_NoFolk_NoFolk cd_NoRanking ct_NoRanking; exact two2_mk ca_NoLine ca_NoRanking cp_NoLine_NoRanking cp_NoLine_NoLine cd_NoRanking ct_NoRanking; exact two2_mk ca_NoNames ca_NoRanking cp_NoNames_NoRanking cp_NoNames_NoNames cd_NoRanking ct_NoRanking; exact two2_mk ca_NoNumber ca_NoRanking cp_NoNumber_NoRanking cp_NoNumber_NoNumber cd_NoRanking ct_NoRanking; exact two2_mk ca_NoWeights ca_NoRanking cp_NoWeights_NoRanking cp_NoWeights_NoWeights cd_NoRanking ct_NoRanking⟩
      exy_NoRow := ⟨gY_mk X G ca_NoRow, by intro n hn; simp only [List.mem_cons, List.not_mem_nil, or_false] at hn; rcases hn with rfl | rfl | rfl | rfl | rfl | rfl | rfl; exact two2_mk ca_NoFall ca_NoRow cp_NoFall_NoRow cp_NoFall_NoFall cd_NoRow ct_NoRow; exact two2_mk ca_NoFit ca_NoRow cp_NoFit_NoRow cp_NoFit_NoFit cd_NoRow ct_NoRow; exact two2_mk ca_NoFolk ca_NoRow cp_NoFolk_NoRow cp_NoFolk_NoFolk cd_NoRow ct_NoRow; exact two2_mk ca_NoLine ca_NoRow cp_NoLine_NoRow cp_NoLine_NoLine cd_NoRow ct_NoRow; exact two2_mk ca_NoNames ca_NoRow cp_NoNames_NoRow cp_NoNames_NoNames cd_NoRow ct_NoRow; exact two2_mk ca_NoNumber ca_NoRow cp_NoNumber_NoRow cp_NoNumber_NoNumber cd_NoRow ct_NoRow; exact two2_mk ca_NoWeights ca_NoRow cp_NoWeights_NoRow cp_NoWeights_NoWeights cd_NoRow ct_NoRow⟩
      exy_NoRule := ⟨gY_mk X G ca_NoRule, by intro n hn; simp only [List.mem_cons, List.not_mem_nil, or_false] at hn; rcases hn with rfl | rfl | rfl | rfl | rfl | rfl | rfl; exact two2_mk ca_NoFall ca_NoRule cp_NoFall_NoRule cp_NoFall_NoFall cd_NoRule ct_NoRule; exact two2_mk ca_NoFit ca_NoRule cp_NoFit_NoRule cp_NoFit_NoFit cd_NoRule ct_NoRule; exact two2_mk ca_NoFolk ca_NoRule cp_NoFolk_NoRule cp_NoFolk_NoFolk cd_NoRule ct_NoRule; exact two2_mk ca_NoLine ca_NoRule cp_NoLine_NoRule cp_NoLine_NoLine cd_NoRule ct_NoRule; exact two2_mk ca_NoNames ca_NoRule cp_NoNames_NoRule cp_NoNames_NoNames cd_NoRule ct_NoRule; exact two2_mk ca_NoNumber ca_NoRule cp_NoNumber_NoRule cp_NoNumber_NoNumber cd_NoRule ct_NoRule; exact two2_mk ca_NoWeights ca_NoRule cp_NoWeights_NoRule cp_NoWeights_NoWeights cd_NoRule ct_NoRule⟩
      exy_NoText := ⟨gY_mk X G ca_NoText, by intro n hn; simp only [List.mem_cons, List.not_mem_nil, or_false] at hn; rcases hn with rfl | rfl | rfl | rfl | rfl | rfl | rfl; exact two2_mk ca_NoFall ca_NoText cp_NoFall_NoText cp_NoFall_NoFall cd_NoText ct_NoText; exact two2_mk ca_NoFit ca_NoText cp_NoFit_NoText cp_NoFit_NoFit cd_NoText ct_NoText; exact two2_mk ca_NoFolk ca_NoText cp_NoFolk_NoText cp_NoFolk_NoFolk cd_NoText ct_NoText; exact two2_mk ca_NoLine ca_NoText cp_NoLine_NoText cp_NoLine_NoLine cd_NoText ct_NoText; exact two2_mk ca_NoNames ca_NoText cp_NoNames_NoText cp_NoNames_NoNames cd_NoText ct_NoText; exact two2_mk ca_NoNumber ca_NoText cp_NoNumber_NoText cp_NoNumber_NoNumber cd_NoText ct_NoText; exact two2_mk ca_NoWeights ca_NoText cp_NoWeights_NoText cp_NoWeights_NoWeights cd_NoText ct_NoText⟩
      exy_NoTitle := ⟨gY_mk X G ca_NoTitle, by intro n hn; simp only [List.mem_cons, List.not_mem_nil, or_false] at hn; rcases hn with rfl | rfl | rfl | rfl | rfl | rfl | rfl; exact two2_mk ca_NoFall ca_NoTitle cp_NoFall_NoTitle cp_NoFall_NoFall cd_NoTitle ct_NoTitle; exact two2_mk ca_NoFit ca_NoTitle cp_NoFit_NoTitle cp_NoFit_NoFit cd_NoTitle ct_NoTitle; exact two2_mk ca_NoFolk ca_NoTitle cp_NoFolk_NoTitle cp_NoFolk_NoFolk cd_NoTitle ct_NoTitle; exact two2_mk ca_NoLine ca_NoTitle cp_NoLine_NoTitle cp_NoLine_NoLine cd_NoTitle ct_NoTitle; exact two2_mk ca_NoNames ca_NoTitle cp_NoNames_NoTitle cp_NoNames_NoNames cd_NoTitle ct_NoTitle; exact two2_mk ca_NoNumber ca_NoTitle cp_NoNumber_NoTitle cp_NoNumber_NoNumber cd_NoTitle ct_NoTitle; exact two2_mk ca_NoWeights ca_NoTitle cp_NoWeights_NoTitle cp_NoWeights_NoWeights cd_NoTitle ct_NoTitle⟩
      exy_NoTops := ⟨gY_mk X G ca_NoTops, by intro n hn; simp only [List.mem_cons, List.not_mem_nil, or_false] at hn; rcases hn with rfl | rfl | rfl | rfl | rfl | rfl | rfl; exact two2_mk ca_NoFall ca_NoTops cp_NoFall_NoTops cp_NoFall_NoFall cd_NoTops ct_NoTops; exact two2_mk ca_NoFit ca_NoTops cp_NoFit_NoTops cp_NoFit_NoFit cd_NoTops ct_NoTops; exact two2_mk ca_NoFolk ca_NoTops cp_NoFolk_NoTops cp_NoFolk_NoFolk cd_NoTops ct_NoTops; exact two2_mk ca_NoLine ca_NoTops cp_NoLine_NoTops cp_NoLine_NoLine cd_NoTops ct_NoTops; exact two2_mk ca_NoNames ca_NoTops cp_NoNames_NoTops cp_NoNames_NoNames cd_NoTops ct_NoTops; exact two2_mk ca_NoNumber ca_NoTops cp_NoNumber_NoTops cp_NoNumber_NoNumber cd_NoTops ct_NoTops; exact two2_mk ca_NoWeights ca_NoTops cp_NoWeights_NoTops cp_NoWeights_NoWeights cd_NoTops ct_NoTops⟩
      exy_NoTree := ⟨gY_mk X G ca_NoTree, by intro n hn; simp only [List.mem_cons, List.not_mem_nil, or_false] at hn; rcases hn with rfl | rfl | rfl | rfl | rfl | rfl | rfl; exact two2_mk ca_NoFall ca_NoTree cp_NoFall_NoTree cp_NoFall_NoFall cd_NoTree ct_NoTree; exact two2_mk ca_NoFit ca_NoTree cp_NoFit_NoTree cp_NoFit_NoFit cd_NoTree ct_NoTree; exact two2_mk ca_NoFolk ca_NoTree cp_NoFolk_NoTree cp_NoFolk_NoFolk cd_NoTree ct_NoTree; exact two2_mk ca_NoLine ca_NoTree cp_NoLine_NoTree cp_NoLine_NoLine cd_NoTree ct_NoTree; exact two2_mk ca_NoNames ca_NoTree cp_NoNames_NoTree cp_NoNames_NoNames cd_NoTree ct_NoTree; exact two2_mk ca_NoNumber ca_NoTree cp_NoNumber_NoTree cp_NoNumber_NoNumber cd_NoTree ct_NoTree; exact two2_mk ca_NoWeights ca_NoTree cp_NoWeights_NoTree cp_NoWeights_NoWeights cd_NoTree ct_NoTree⟩
      exy_TooGreat := ⟨gY_mk X G ca_TooGreat, by intro n hn; simp only [List.mem_cons, List.not_mem_nil, or_false] at hn; rcases hn with rfl | rfl | rfl | rfl | rfl | rfl | rfl; exact two2_mk ca_NoFall ca_TooGreat cp_NoFall_TooGreat cp_NoFall_NoFall cd_TooGreat ct_TooGreat; exact two2_mk ca_NoFit ca_TooGreat cp_NoFit_TooGreat cp_NoFit_NoFit cd_TooGreat ct_TooGreat; exact two2_mk ca_NoFolk ca_TooGreat cp_NoFolk_TooGreat cp_NoFolk_NoFolk cd_TooGreat ct_TooGreat; exact two2_mk ca_NoLine ca_TooGreat cp_NoLine_TooGreat cp_NoLine_NoLine cd_TooGreat ct_TooGreat; exact two2_mk ca_NoNames ca_TooGreat cp_NoNames_TooGreat cp_NoNames_NoNames cd_TooGreat ct_TooGreat; exact two2_mk ca_NoNumber ca_TooGreat cp_NoNumber_TooGreat cp_NoNumber_NoNumber cd_TooGreat ct_TooGreat; exact two2_mk ca_NoWeights ca_TooGreat cp_NoWeights_TooGreat cp_NoWeights_NoWeights cd_TooGreat ct_TooGreat⟩
      d_is_number := wr_mk X G a_is_number l_is_number c_is_number k_is_number fun _ _ _ _ _ _ us hl => match us, hl with | [_], _ => rfl
      d_are_unlike_names := wr_mk X G a_are_unlike_names l_are_unlike_names c_are_unlike_names k_are_unlike_names fun _ _ _ _ _ _ us hl => match us, hl with | [_], _ => rfl
      d_is_ranking := wr_mk X G a_is_ranking l_is_ranking c_is_ranking k_is_ranking fun _ _ _ _ _ _ us hl => match us, hl with | [_], _ => rfl
      d_is_folk := wr_mk X G a_is_folk l_is_folk c_is_folk k_is_folk fun _ _ _ _ _ _ us hl => match us, hl with | [_], _ => rfl
      d_must_be_folk := wr_mk X G a_must_be_folk l_must_be_folk c_must_be_folk k_must_be_folk fun _ _ _ _ _ _ us hl => match us, hl with | [_], _ => rfl
      d_is_ahead := wr_mk X G a_is_ahead l_is_ahead c_is_ahead k_is_ahead fun _ _ _ _ _ _ us hl => match us, hl with | [_, _, _], _ => rfl
      d_is_line := wr_mk X G a_is_line l_is_line c_is_line k_is_line fun _ _ _ _ _ _ us hl => match us, hl with | [_], _ => rfl
      d_must_be_line := wr_mk X G a_must_be_line l_must_be_line c_must_be_line k_must_be_line fun _ _ _ _ _ _ us hl => match us, hl with | [_], _ => rfl
      d_does_fall := wr_mk X G a_does_fall l_does_fall c_does_fall k_does_fall fun _ _ _ _ _ _ us hl => match us, hl with | [_, _], _ => rfl
      d_must_be_weighed := wr_mk X G a_must_be_weighed l_must_be_weighed c_must_be_weighed k_must_be_weighed fun _ _ _ _ _ _ us hl => match us, hl with | [_, _], _ => rfl
      d_must_fall := wr_mk X G a_must_fall l_must_fall c_must_fall k_must_fall fun _ _ _ _ _ _ us hl => match us, hl with | [_, _], _ => rfl
      d_lead := wr_mk X G a_lead l_lead c_lead k_lead fun _ _ _ _ _ _ us hl => match us, hl with | [_, _, _, _], _ => rfl
      d_margin := wr_mk X G a_margin l_margin c_margin k_margin fun _ _ _ _ _ _ us hl => match us, hl with | [_, _, _, _], _ => rfl
      d_beaters := wr_mk X G a_beaters l_beaters c_beaters k_beaters fun _ _ _ _ _ _ us hl => match us, hl with | [_, _, _, _], _ => rfl
      d_order_wrong := wr_mk X G a_order_wrong l_order_wrong c_order_wrong k_order_wrong fun _ _ _ _ _ _ us hl => match us, hl with | [_, _, _], _ => rfl
      d_ring_wrong := wr_mk X G a_ring_wrong l_ring_wrong c_ring_wrong k_ring_wrong fun _ _ _ _ _ _ us hl => match us, hl with | [_, _, _], _ => rfl
      d_order_judged := wr_mk X G a_order_judged l_order_judged c_order_judged k_order_judged fun _ _ _ _ _ _ us hl => match us, hl with | [_, _, _], _ => rfl
      d_ring_among := wr_mk X G a_ring_among l_ring_among c_ring_among k_ring_among fun _ _ _ _ _ _ us hl => match us, hl with | [_, _, _], _ => rfl
      d_order_of := wr_mk X G a_order_of l_order_of c_order_of k_order_of fun _ _ _ _ _ _ us hl => match us, hl with | [_, _], _ => rfl
      d_unbeaten := wr_mk X G a_unbeaten l_unbeaten c_unbeaten k_unbeaten fun _ _ _ _ _ _ us hl => match us, hl with | [_, _], _ => rfl
      d_first_half := wr_mk X G a_first_half l_first_half c_first_half k_first_half fun _ _ _ _ _ _ us hl => match us, hl with | [_, _, _], _ => rfl
      d_middle := wr_mk X G a_middle l_middle c_middle k_middle fun _ _ _ _ _ _ us hl => match us, hl with | [_, _, _], _ => rfl
      d_paid := wr_mk X G a_paid l_paid c_paid k_paid fun _ _ _ _ _ _ us hl => match us, hl with | [_, _, _], _ => rfl
      d_cost := wr_mk X G a_cost l_cost c_cost k_cost fun _ _ _ _ _ _ us hl => match us, hl with | [_, _, _], _ => rfl
      d_gain := wr_mk X G a_gain l_gain c_gain k_gain fun _ _ _ _ _ _ us hl => match us, hl with | [_, _, _, _], _ => rfl
      d_bounds := wr_mk X G a_bounds l_bounds c_bounds k_bounds fun _ _ _ _ _ _ us hl => match us, hl with | [_, _, _, _, _, _], _ => rfl
      d_filled := wr_mk X G a_filled l_filled c_filled k_filled fun _ _ _ _ _ _ us hl => match us, hl with | [_, _, _, _], _ => rfl
      d_must_be_asked := wr_mk X G a_must_be_asked l_must_be_asked c_must_be_asked k_must_be_asked fun _ _ _ _ _ _ us hl => match us, hl with | [_, _, _, _], _ => rfl
      d_last_of := wr_mk X G a_last_of l_last_of c_last_of k_last_of fun _ _ _ _ _ _ us hl => match us, hl with | [_], _ => rfl
      d_few := wr_mk X G a_few l_few c_few k_few fun _ _ _ _ _ _ us hl => match us, hl with | [_, _, _, _], _ => rfl
      d_are_along := wr_mk X G a_are_along l_are_along c_are_along k_are_along fun _ _ _ _ _ _ us hl => match us, hl with | [_, _, _], _ => rfl
      d_is_row := wr_mk X G a_is_row l_is_row c_is_row k_is_row fun _ _ _ _ _ _ us hl => match us, hl with | [_, _, _], _ => rfl
      d_is_table := wr_mk X G a_is_table l_is_table c_is_table k_is_table fun _ _ _ _ _ _ us hl => match us, hl with | [_, _, _], _ => rfl
      d_table_wrong := wr_mk X G a_table_wrong l_table_wrong c_table_wrong k_table_wrong fun _ _ _ _ _ _ us hl => match us, hl with | [_, _, _, _, _], _ => rfl
      d_few_judged := wr_mk X G a_few_judged l_few_judged c_few_judged k_few_judged fun _ _ _ _ _ _ us hl => match us, hl with | [_, _, _, _, _], _ => rfl
      d__law_whole := wr_mk X G a__law_whole l__law_whole c__law_whole k__law_whole fun _ _ _ _ _ _ us hl => match us, hl with | [_], _ => rfl
      d__law_draws := wr_mk X G a__law_draws l__law_draws c__law_draws k__law_draws fun _ _ _ _ _ _ us hl => match us, hl with | [_, _, _], _ => rfl
      d__law_names := wr_mk X G a__law_names l__law_names c__law_names k__law_names fun _ _ _ _ _ _ us hl => match us, hl with | [_], _ => rfl
      d__law_shuffled := wr_mk X G a__law_shuffled l__law_shuffled c__law_shuffled k__law_shuffled fun _ _ _ _ _ _ us hl => match us, hl with | [_, _], _ => rfl
      d__law_fallen := wr_mk X G a__law_fallen l__law_fallen c__law_fallen k__law_fallen fun _ _ _ _ _ _ us hl => match us, hl with | [_, _], _ => rfl
      d__law_line := wr_mk X G a__law_line l__law_line c__law_line k__law_line fun _ _ _ _ _ _ us hl => match us, hl with | [_, _, _], _ => rfl
      d__law_folk := wr_mk X G a__law_folk l__law_folk c__law_folk k__law_folk fun _ _ _ _ _ _ us hl => match us, hl with | [_, _, _, _, _], _ => rfl
      d__law_weights := wr_mk X G a__law_weights l__law_weights c__law_weights k__law_weights fun _ _ _ _ _ _ us hl => match us, hl with | [_, _, _], _ => rfl
      d__law_falls := wr_mk X G a__law_falls l__law_falls c__law_falls k__law_falls fun _ _ _ _ _ _ us hl => match us, hl with | [_, _], _ => rfl
      d__law_copied := wr_mk X G a__law_copied l__law_copied c__law_copied k__law_copied fun _ _ _ _ _ _ us hl => match us, hl with | [_], _ => rfl
      d__law_names_of := wr_mk X G a__law_names_of l__law_names_of c__law_names_of k__law_names_of fun _ _ _ _ _ _ us hl => match us, hl with | [_], _ => rfl
      d__law_asked := wr_mk X G a__law_asked l__law_asked c__law_asked k__law_asked fun _ _ _ _ _ _ us hl => match us, hl with | [_, _, _, _, _], _ => rfl
      d__law_refused := wr_mk X G a__law_refused l__law_refused c__law_refused k__law_refused fun _ _ _ _ _ _ us hl => match us, hl with | [_, _, _, _, _, _], _ => rfl
      d__law_no_folk := wr_mk X G a__law_no_folk l__law_no_folk c__law_no_folk k__law_no_folk fun _ _ _ _ _ _ us hl => match us, hl with | [_, _], _ => rfl
      d__law_no_weights := wr_mk X G a__law_no_weights l__law_no_weights c__law_no_weights k__law_no_weights fun _ _ _ _ _ _ us hl => match us, hl with | [_, _], _ => rfl
      d__law_no_line := wr_mk X G a__law_no_line l__law_no_line c__law_no_line k__law_no_line fun _ _ _ _ _ _ us hl => match us, hl with | [_, _], _ => rfl }
  have e := hfa.symm.trans (PySem.W.mg_of X G a_law)
  cases e
  refine ⟨PySem.W.fnOf "law" "law" (defArgs (top 79)) (defBody (top 79)) (defScope (top 79)) .none kV_law dc_law pm_law an_law cd_law ct_law, fun s v => .of_eq rfl, fun base _ _ => ?_⟩
  let cl : String → Addr := clOf K
  have q_is_number := w_is_number (P := P) (w := w) (base := base) T   
  have q_are_unlike_names := w_are_unlike_names (P := P) (w := w) (base := base) T q_is_number  
  have q_is_ranking := w_is_ranking (P := P) (w := w) (base := base) T q_are_unlike_names  
  have q_is_folk := w_is_folk (P := P) (w := w) (base := base) T q_is_ranking  
  have q_must_be_folk := w_must_be_folk (P := P) (w := w) (base := base) T q_is_folk  
  have q_is_ahead := w_is_ahead (P := P) (w := w) (base := base) T   
  have q_is_line := w_is_line (P := P) (w := w) (base := base) T q_is_ranking  
  have q_must_be_line := w_must_be_line (P := P) (w := w) (base := base) T q_is_line  
  have q_does_fall := w_does_fall (P := P) (w := w) (base := base) T   
  have q_must_be_weighed := w_must_be_weighed (P := P) (w := w) (base := base) T q_is_number q_must_be_folk  
  have q_must_fall := w_must_fall (P := P) (w := w) (base := base) T q_must_be_line q_does_fall  
  have q_lead := w_lead (P := P) (w := w) (base := base) T q_is_ahead  
  have q_margin := w_margin (P := P) (w := w) (base := base) T q_must_be_weighed q_lead  
  have q_beaters := w_beaters (P := P) (w := w) (base := base) T q_lead  
  have q_order_wrong := w_order_wrong (P := P) (w := w) (base := base) T q_are_unlike_names q_beaters  
  have q_ring_wrong := w_ring_wrong (P := P) (w := w) (base := base) T q_are_unlike_names q_lead  
  have q_order_judged := w_order_judged (P := P) (w := w) (base := base) T q_must_be_weighed q_order_wrong q_ring_wrong  
  have q_ring_among := w_ring_among (P := P) (w := w) (base := base) T q_beaters  
  have q_order_of := w_order_of (P := P) (w := w) (base := base) T q_must_be_weighed q_beaters q_ring_among  
  have q_unbeaten := w_unbeaten (P := P) (w := w) (base := base) T q_must_be_weighed q_beaters  
  have q_first_half := w_first_half (P := P) (w := w) (base := base) T   
  have q_middle := w_middle (P := P) (w := w) (base := base) T q_must_be_weighed q_must_fall q_first_half  
  have q_paid := w_paid (P := P) (w := w) (base := base) T   
  have q_cost := w_cost (P := P) (w := w) (base := base) T q_are_unlike_names q_must_be_weighed q_paid  
  have q_gain := w_gain (P := P) (w := w) (base := base) T   
  have q_bounds := w_bounds (P := P) (w := w) (base := base) T q_paid q_gain  
  have q_filled := w_filled (P := P) (w := w) (base := base) T q_bounds  
  have q_must_be_asked := w_must_be_asked (P := P) (w := w) (base := base) T q_must_be_weighed q_must_fall  
  have q_last_of := w_last_of (P := P) (w := w) (base := base) T   
  have q_few := w_few (P := P) (w := w) (base := base) T q_bounds q_filled q_must_be_asked q_last_of  
  have q_are_along := w_are_along (P := P) (w := w) (base := base) T q_are_unlike_names  
  have q_is_row := w_is_row (P := P) (w := w) (base := base) T q_is_number  
  have q_is_table := w_is_table (P := P) (w := w) (base := base) T q_is_row  
  have q_table_wrong := w_table_wrong (P := P) (w := w) (base := base) T q_bounds  
  have q_few_judged := w_few_judged (P := P) (w := w) (base := base) T q_is_number q_paid q_must_be_asked q_are_along q_is_table q_table_wrong  
  have q__law_whole := w__law_whole (P := P) (w := w) (base := base) T   
  have q__law_draws := w__law_draws (P := P) (w := w) (base := base) T   
  have q__law_names := w__law_names (P := P) (w := w) (base := base) T   
  have q__law_shuffled := w__law_shuffled (P := P) (w := w) (base := base) T   
  have q__law_fallen := w__law_fallen (P := P) (w := w) (base := base) T   
  have q__law_line := w__law_line (P := P) (w := w) (base := base) T q__law_draws q__law_names q__law_shuffled  
  have q__law_folk := w__law_folk (P := P) (w := w) (base := base) T q__law_draws q__law_shuffled q__law_fallen  
  have q__law_weights := w__law_weights (P := P) (w := w) (base := base) T q__law_draws  
  have q__law_falls := w__law_falls (P := P) (w := w) (base := base) T   
  have q__law_copied := w__law_copied (P := P) (w := w) (base := base) T    6
  have q__law_names_of := w__law_names_of (P := P) (w := w) (base := base) T   
  have q__law_asked := w__law_asked (P := P) (w := w) (base := base) T q_margin q_order_judged q_order_of q_unbeaten q_middle q_cost q_few q_few_judged  
  have q__law_refused := w__law_refused (P := P) (w := w) (base := base) T q__law_whole q__law_names_of q__law_asked  
  have q__law_no_folk := w__law_no_folk (P := P) (w := w) (base := base) T   
  have q__law_no_weights := w__law_no_weights (P := P) (w := w) (base := base) T   
  have q__law_no_line := w__law_no_line (P := P) (w := w) (base := base) T   
  exact w_law (P := P) (w := w) (base := base) T law_k54_ok q__law_draws q__law_line q__law_folk q__law_weights q__law_falls q__law_copied q__law_refused q__law_no_folk q__law_no_weights q__law_no_line   (fun_mk l_law c_law k_law)
end K54
end DL
open PySem PySem.W PyProof.Rows in
set_option maxRecDepth 100000 in
set_option maxHeartbeats 0 in
theorem PySem.Challenge.cw_ontheline_k54_weights_and_lines_refused_holds : PySem.Challenge.rw_ontheline_k54_weights_and_lines_refused.Holds := by
  w_on; o_law; k_head; (case hw => w_witness2)
  k_fill
  refine DL.walk (l := PySem.Challenge.rw_ontheline_k54_weights_and_lines_refused) (k := 11) (x := "_law_script") rfl rfl ⟨rfl, by decide, by decide⟩ (fun w h Y => PySem.W.kIn_of Y) ?F
  case F =>
    intro w mg fa h KX G hmg
    refine' DL.K54.all_mk KX G hmg ?a_is_number ?l_is_number ?c_is_number ?k_is_number ?a_are_unlike_names ?l_are_unlike_names ?c_are_unlike_names ?k_are_unlike_names ?a_is_ranking ?l_is_ranking ?c_is_ranking ?k_is_ranking ?a_is_folk ?l_is_folk ?c_is_folk ?k_is_folk ?a_must_be_folk ?l_must_be_folk ?c_must_be_folk ?k_must_be_folk ?a_is_ahead ?l_is_ahead ?c_is_ahead ?k_is_ahead ?a_is_line ?l_is_line ?c_is_line ?k_is_line ?a_must_be_line ?l_must_be_line ?c_must_be_line ?k_must_be_line ?a_does_fall ?l_does_fall ?c_does_fall ?k_does_fall ?a_must_be_weighed ?l_must_be_weighed ?c_must_be_weighed ?k_must_be_weighed ?a_must_fall ?l_must_fall ?c_must_fall ?k_must_fall ?a_lead ?l_lead ?c_lead ?k_lead ?a_margin ?l_margin ?c_margin ?k_margin ?a_beaters ?l_beaters ?c_beaters ?k_beaters ?a_order_wrong ?l_order_wrong ?c_order_wrong ?k_order_wrong ?a_ring_wrong ?l_ring_wrong ?c_ring_wrong ?k_ring_wrong ?a_order_judged ?l_order_judged ?c_order_judged ?k_order_judged ?a_ring_among ?l_ring_among ?c_ring_among ?k_ring_among ?a_order_of ?l_order_of ?c_order_of ?k_order_of ?a_unbeaten ?l_unbeaten ?c_unbeaten ?k_unbeaten ?a_first_half ?l_first_half ?c_first_half ?k_first_half ?a_middle ?l_middle ?c_middle ?k_middle ?a_paid ?l_paid ?c_paid ?k_paid ?a_cost ?l_cost ?c_cost ?k_cost ?a_gain ?l_gain ?c_gain ?k_gain ?a_bounds ?l_bounds ?c_bounds ?k_bounds ?a_filled ?l_filled ?c_filled ?k_filled ?a_must_be_asked ?l_must_be_asked ?c_must_be_asked ?k_must_be_asked ?a_last_of ?l_last_of ?c_last_of ?k_last_of ?a_few ?l_few ?c_few ?k_few ?a_are_along ?l_are_along ?c_are_along ?k_are_along ?a_is_row ?l_is_row ?c_is_row ?k_is_row ?a_is_table ?l_is_table ?c_is_table ?k_is_table ?a_table_wrong ?l_table_wrong ?c_table_wrong ?k_table_wrong ?a_few_judged ?l_few_judged ?c_few_judged ?k_few_judged ?a__law_whole ?l__law_whole ?c__law_whole ?k__law_whole ?a__law_draws ?l__law_draws ?c__law_draws ?k__law_draws ?a__law_names ?l__law_names ?c__law_names ?k__law_names ?a__law_shuffled ?l__law_shuffled ?c__law_shuffled ?k__law_shuffled ?a__law_fallen ?l__law_fallen ?c__law_fallen ?k__law_fallen ?a__law_line ?l__law_line ?c__law_line ?k__law_line ?a__law_folk ?l__law_folk ?c__law_folk ?k__law_folk ?a__law_weights ?l__law_weights ?c__law_weights ?k__law_weights ?a__law_falls ?l__law_falls ?c__law_falls ?k__law_falls ?a__law_copied ?l__law_copied ?c__law_copied ?k__law_copied ?a__law_names_of ?l__law_names_of ?c__law_names_of ?k__law_names_of ?a__law_asked ?l__law_asked ?c__law_asked ?k__law_asked ?a__law_refused ?l__law_refused ?c__law_refused ?k__law_refused ?a__law_no_folk ?l__law_no_folk ?c__law_no_folk ?k__law_no_folk ?a__law_no_weights ?l__law_no_weights ?c__law_no_weights ?k__law_no_weights ?a__law_no_line ?l__law_no_line ?c__law_no_line ?k__law_no_line ?a_law ?l_law ?c_law ?k_law ?z_isinstance ?z_int ?z_bool ?z_len ?z_list ?z_all ?z_set ?z_sorted ?z_min ?z_max ?z_enumerate ?z_zip ?z_tuple ?z_str ?z_sum ?z_range ?z_ValueError ?g_MOST_NAMES ?g_MOST_HANDS ?ca_NoFall ?cb_NoFall ?ct_NoFall ?cd_NoFall ?ca_NoFit ?cb_NoFit ?ct_NoFit ?cd_NoFit ?ca_NoFolk ?cb_NoFolk ?ct_NoFolk ?cd_NoFolk ?ca_NoLine ?cb_NoLine ?ct_NoLine ?cd_NoLine ?ca_NoNames ?cb_NoNames ?ct_NoNames ?cd_NoNames ?ca_NoNumber ?cb_NoNumber ?ct_NoNumber ?cd_NoNumber ?ca_NoWeights ?cb_NoWeights ?ct_NoWeights ?cd_NoWeights ?ca_FolkError ?cb_FolkError ?ct_FolkError ?cd_FolkError ?ck_NoFall ?cv_NoFall ?cg_NoFall ?ch_NoFall ?cc_NoFall ?cm_NoFall ?cf_NoFall ?cp_NoFall_NoFall ?cp_NoFall_NoFit ?cp_NoFall_NoFolk ?cp_NoFall_NoLine ?cp_NoFall_NoNames ?cp_NoFall_NoNumber ?cp_NoFall_NoWeights ?cx_NoFit ?ck_NoFit ?cv_NoFit ?cg_NoFit ?ch_NoFit ?cc_NoFit ?cm_NoFit ?cf_NoFit ?cp_NoFit_NoFall ?cp_NoFit_NoFit ?cp_NoFit_NoFolk ?cp_NoFit_NoLine ?cp_NoFit_NoNames ?cp_NoFit_NoNumber ?cp_NoFit_NoWeights ?cx_NoFolk ?ck_NoFolk ?cv_NoFolk ?cg_NoFolk ?ch_NoFolk ?cc_NoFolk ?cm_NoFolk ?cf_NoFolk ?cp_NoFolk_NoFall ?cp_NoFolk_NoFit ?cp_NoFolk_NoFolk ?cp_NoFolk_NoLine ?cp_NoFolk_NoNames ?cp_NoFolk_NoNumber ?cp_NoFolk_NoWeights ?cx_NoLine ?ck_NoLine ?cv_NoLine ?cg_NoLine ?ch_NoLine ?cc_NoLine ?cm_NoLine ?cf_NoLine ?cp_NoLine_NoFall ?cp_NoLine_NoFit ?cp_NoLine_NoFolk ?cp_NoLine_NoLine ?cp_NoLine_NoNames ?cp_NoLine_NoNumber ?cp_NoLine_NoWeights ?cx_NoNames ?ck_NoNames ?cv_NoNames ?cg_NoNames ?ch_NoNames ?cc_NoNames ?cm_NoNames ?cf_NoNames ?cp_NoNames_NoFall ?cp_NoNames_NoFit ?cp_NoNames_NoFolk ?cp_NoNames_NoLine ?cp_NoNames_NoNames ?cp_NoNames_NoNumber ?cp_NoNames_NoWeights ?cx_NoNumber ?ck_NoNumber ?cv_NoNumber ?cg_NoNumber ?ch_NoNumber ?cc_NoNumber ?cm_NoNumber ?cf_NoNumber ?cp_NoNumber_NoFall ?cp_NoNumber_NoFit ?cp_NoNumber_NoFolk ?cp_NoNumber_NoLine ?cp_NoNumber_NoNames ?cp_NoNumber_NoNumber ?cp_NoNumber_NoWeights ?cx_NoWeights ?ck_NoWeights ?cv_NoWeights ?cg_NoWeights ?ch_NoWeights ?cc_NoWeights ?cm_NoWeights ?cf_NoWeights ?cp_NoWeights_NoFall ?cp_NoWeights_NoFit ?cp_NoWeights_NoFolk ?cp_NoWeights_NoLine ?cp_NoWeights_NoNames ?cp_NoWeights_NoNumber ?cp_NoWeights_NoWeights ?ca_NoBack ?ct_NoBack ?cd_NoBack ?cp_NoFall_NoBack ?cp_NoFit_NoBack ?cp_NoFolk_NoBack ?cp_NoLine_NoBack ?cp_NoNames_NoBack ?cp_NoNumber_NoBack ?cp_NoWeights_NoBack ?ca_NoFixed ?ct_NoFixed ?cd_NoFixed ?cp_NoFall_NoFixed ?cp_NoFit_NoFixed ?cp_NoFolk_NoFixed ?cp_NoLine_NoFixed ?cp_NoNames_NoFixed ?cp_NoNumber_NoFixed ?cp_NoWeights_NoFixed ?ca_NoHand ?ct_NoHand ?cd_NoHand ?cp_NoFall_NoHand ?cp_NoFit_NoHand ?cp_NoFolk_NoHand ?cp_NoLine_NoHand ?cp_NoNames_NoHand ?cp_NoNumber_NoHand ?cp_NoWeights_NoHand ?ca_NoPaper ?ct_NoPaper ?cd_NoPaper ?cp_NoFall_NoPaper ?cp_NoFit_NoPaper ?cp_NoFolk_NoPaper ?cp_NoLine_NoPaper ?cp_NoNames_NoPaper ?cp_NoNumber_NoPaper ?cp_NoWeights_NoPaper ?ca_NoRanking ?ct_NoRanking ?cd_NoRanking ?cp_NoFall_NoRanking ?cp_NoFit_NoRanking ?cp_NoFolk_NoRanking ?cp_NoLine_NoRanking ?cp_NoNames_NoRanking ?cp_NoNumber_NoRanking ?cp_NoWeights_NoRanking ?ca_NoRow ?ct_NoRow ?cd_NoRow ?cp_NoFall_NoRow ?cp_NoFit_NoRow ?cp_NoFolk_NoRow ?cp_NoLine_NoRow ?cp_NoNames_NoRow ?cp_NoNumber_NoRow ?cp_NoWeights_NoRow ?ca_NoRule ?ct_NoRule ?cd_NoRule ?cp_NoFall_NoRule ?cp_NoFit_NoRule ?cp_NoFolk_NoRule ?cp_NoLine_NoRule ?cp_NoNames_NoRule ?cp_NoNumber_NoRule ?cp_NoWeights_NoRule ?ca_NoText ?ct_NoText ?cd_NoText ?cp_NoFall_NoText ?cp_NoFit_NoText ?cp_NoFolk_NoText ?cp_NoLine_NoText ?cp_NoNames_NoText ?cp_NoNumber_NoText ?cp_NoWeights_NoText ?ca_NoTitle ?ct_NoTitle ?cd_NoTitle ?cp_NoFall_NoTitle ?cp_NoFit_NoTitle ?cp_NoFolk_NoTitle ?cp_NoLine_NoTitle ?cp_NoNames_NoTitle ?cp_NoNumber_NoTitle ?cp_NoWeights_NoTitle ?ca_NoTops ?ct_NoTops ?cd_NoTops ?cp_NoFall_NoTops ?cp_NoFit_NoTops ?cp_NoFolk_NoTops ?cp_NoLine_NoTops ?cp_NoNames_NoTops ?cp_NoNumber_NoTops ?cp_NoWeights_NoTops ?ca_NoTree ?ct_NoTree ?cd_NoTree ?cp_NoFall_NoTree ?cp_NoFit_NoTree ?cp_NoFolk_NoTree ?cp_NoLine_NoTree ?cp_NoNames_NoTree ?cp_NoNumber_NoTree ?cp_NoWeights_NoTree ?ca_TooGreat ?ct_TooGreat ?cd_TooGreat ?cp_NoFall_TooGreat ?cp_NoFit_TooGreat ?cp_NoFolk_TooGreat ?cp_NoLine_TooGreat ?cp_NoNames_TooGreat ?cp_NoNumber_TooGreat ?cp_NoWeights_TooGreat ?co_NoFall ?gk_NoFall ?cs_NoFall ?cn_NoFall ?ci_NoFall ?cy_NoFall ?cl_NoFall ?cc2_NoFall ?ck2_NoFall ?cr_F ?cg_F ?cf_F ?c0_s ?c0_t
    (case a_is_number => k_is)
    (case l_is_number => k_is)
    (case c_is_number => k_is)
    (case k_is_number => k_is)
    (case a_are_unlike_names => k_is)
    (case l_are_unlike_names => k_is)
    (case c_are_unlike_names => k_is)
    (case k_are_unlike_names => k_is)
    (case a_is_ranking => k_is)
    (case l_is_ranking => k_is)
    (case c_is_ranking => k_is)
    (case k_is_ranking => k_is)
    (case a_is_folk => k_is)
    (case l_is_folk => k_is)
    (case c_is_folk => k_is)
    (case k_is_folk => k_is)
    (case a_must_be_folk => k_is)
    (case l_must_be_folk => k_is)
    (case c_must_be_folk => k_is)
    (case k_must_be_folk => k_is)
    (case a_is_ahead => k_is)
    (case l_is_ahead => k_is)
    (case c_is_ahead => k_is)
    (case k_is_ahead => k_is)
    (case a_is_line => k_is)
    (case l_is_line => k_is)
    (case c_is_line => k_is)
    (case k_is_line => k_is)
    (case a_must_be_line => k_is)
    (case l_must_be_line => k_is)
    (case c_must_be_line => k_is)
    (case k_must_be_line => k_is)
    (case a_does_fall => k_is)
    (case l_does_fall => k_is)
    (case c_does_fall => k_is)
    (case k_does_fall => k_is)
    (case a_must_be_weighed => k_is)
    (case l_must_be_weighed => k_is)
    (case c_must_be_weighed => k_is)
    (case k_must_be_weighed => k_is)
    (case a_must_fall => k_is)
    (case l_must_fall => k_is)
    (case c_must_fall => k_is)
    (case k_must_fall => k_is)
    (case a_lead => k_is)
    (case l_lead => k_is)
    (case c_lead => k_is)
    (case k_lead => k_is)
    (case a_margin => k_is)
    (case l_margin => k_is)
    (case c_margin => k_is)
    (case k_margin => k_is)
    (case a_beaters => k_is)
    (case l_beaters => k_is)
    (case c_beaters => k_is)
    (case k_beaters => k_is)
    (case a_order_wrong => k_is)
    (case l_order_wrong => k_is)
    (case c_order_wrong => k_is)
    (case k_order_wrong => k_is)
    (case a_ring_wrong => k_is)
    (case l_ring_wrong => k_is)
    (case c_ring_wrong => k_is)
    (case k_ring_wrong => k_is)
    (case a_order_judged => k_is)
    (case l_order_judged => k_is)
    (case c_order_judged => k_is)
    (case k_order_judged => k_is)
    (case a_ring_among => k_is)
    (case l_ring_among => k_is)
    (case c_ring_among => k_is)
    (case k_ring_among => k_is)
    (case a_order_of => k_is)
    (case l_order_of => k_is)
    (case c_order_of => k_is)
    (case k_order_of => k_is)
    (case a_unbeaten => k_is)
    (case l_unbeaten => k_is)
    (case c_unbeaten => k_is)
    (case k_unbeaten => k_is)
    (case a_first_half => k_is)
    (case l_first_half => k_is)
    (case c_first_half => k_is)
    (case k_first_half => k_is)
    (case a_middle => k_is)
    (case l_middle => k_is)
    (case c_middle => k_is)
    (case k_middle => k_is)
    (case a_paid => k_is)
    (case l_paid => k_is)
    (case c_paid => k_is)
    (case k_paid => k_is)
    (case a_cost => k_is)
    (case l_cost => k_is)
    (case c_cost => k_is)
    (case k_cost => k_is)
    (case a_gain => k_is)
    (case l_gain => k_is)
    (case c_gain => k_is)
    (case k_gain => k_is)
    (case a_bounds => k_is)
    (case l_bounds => k_is)
    (case c_bounds => k_is)
    (case k_bounds => k_is)
    (case a_filled => k_is)
    (case l_filled => k_is)
    (case c_filled => k_is)
    (case k_filled => k_is)
    (case a_must_be_asked => k_is)
    (case l_must_be_asked => k_is)
    (case c_must_be_asked => k_is)
    (case k_must_be_asked => k_is)
    (case a_last_of => k_is)
    (case l_last_of => k_is)
    (case c_last_of => k_is)
    (case k_last_of => k_is)
    (case a_few => k_is)
    (case l_few => k_is)
    (case c_few => k_is)
    (case k_few => k_is)
    (case a_are_along => k_is)
    (case l_are_along => k_is)
    (case c_are_along => k_is)
    (case k_are_along => k_is)
    (case a_is_row => k_is)
    (case l_is_row => k_is)
    (case c_is_row => k_is)
    (case k_is_row => k_is)
    (case a_is_table => k_is)
    (case l_is_table => k_is)
    (case c_is_table => k_is)
    (case k_is_table => k_is)
    (case a_table_wrong => k_is)
    (case l_table_wrong => k_is)
    (case c_table_wrong => k_is)
    (case k_table_wrong => k_is)
    (case a_few_judged => k_is)
    (case l_few_judged => k_is)
    (case c_few_judged => k_is)
    (case k_few_judged => k_is)
    (case a__law_whole => k_is)
    (case l__law_whole => k_is)
    (case c__law_whole => k_is)
    (case k__law_whole => k_is)
    (case a__law_draws => k_is)
    (case l__law_draws => k_is)
    (case c__law_draws => k_is)
    (case k__law_draws => k_is)
    (case a__law_names => k_is)
    (case l__law_names => k_is)
    (case c__law_names => k_is)
    (case k__law_names => k_is)
    (case a__law_shuffled => k_is)
    (case l__law_shuffled => k_is)
    (case c__law_shuffled => k_is)
    (case k__law_shuffled => k_is)
    (case a__law_fallen => k_is)
    (case l__law_fallen => k_is)
    (case c__law_fallen => k_is)
    (case k__law_fallen => k_is)
    (case a__law_line => k_is)
    (case l__law_line => k_is)
    (case c__law_line => k_is)
    (case k__law_line => k_is)
    (case a__law_folk => k_is)
    (case l__law_folk => k_is)
    (case c__law_folk => k_is)
    (case k__law_folk => k_is)
    (case a__law_weights => k_is)
    (case l__law_weights => k_is)
    (case c__law_weights => k_is)
    (case k__law_weights => k_is)
    (case a__law_falls => k_is)
    (case l__law_falls => k_is)
    (case c__law_falls => k_is)
    (case k__law_falls => k_is)
    (case a__law_copied => k_is)
    (case l__law_copied => k_is)
    (case c__law_copied => k_is)
    (case k__law_copied => k_is)
    (case a__law_names_of => k_is)
    (case l__law_names_of => k_is)
    (case c__law_names_of => k_is)
    (case k__law_names_of => k_is)
    (case a__law_asked => k_is)
    (case l__law_asked => k_is)
    (case c__law_asked => k_is)
    (case k__law_asked => k_is)
    (case a__law_refused => k_is)
    (case l__law_refused => k_is)
    (case c__law_refused => k_is)
    (case k__law_refused => k_is)
    (case a__law_no_folk => k_is)
    (case l__law_no_folk => k_is)
    (case c__law_no_folk => k_is)
    (case k__law_no_folk => k_is)
    (case a__law_no_weights => k_is)
    (case l__law_no_weights => k_is)
    (case c__law_no_weights => k_is)
    (case k__law_no_weights => k_is)
    (case a__law_no_line => k_is)
    (case l__law_no_line => k_is)
    (case c__law_no_line => k_is)
    (case k__law_no_line => k_is)
    (case a_law => k_is)
    (case l_law => k_is)
    (case c_law => k_is)
    (case k_law => k_is)
    (case z_isinstance => k_is)
    (case z_int => k_is)
    (case z_bool => k_is)
    (case z_len => k_is)
    (case z_list => k_is)
    (case z_all => k_is)
    (case z_set => k_is)
    (case z_sorted => k_is)
    (case z_min => k_is)
    (case z_max => k_is)
    (case z_enumerate => k_is)
    (case z_zip => k_is)
    (case z_tuple => k_is)
    (case z_str => k_is)
    (case z_sum => k_is)
    (case z_range => k_is)
    (case z_ValueError => k_is)
    (case g_MOST_NAMES => k_is)
    (case g_MOST_HANDS => k_is)
    (case ca_NoFall => k_is)
    (case cb_NoFall => k_is)
    (case ct_NoFall => k_is)
    (case cd_NoFall => k_is)
    (case ca_NoFit => k_is)
    (case cb_NoFit => k_is)
    (case ct_NoFit => k_is)
    (case cd_NoFit => k_is)
    (case ca_NoFolk => k_is)
    (case cb_NoFolk => k_is)
    (case ct_NoFolk => k_is)
    (case cd_NoFolk => k_is)
    (case ca_NoLine => k_is)
    (case cb_NoLine => k_is)
    (case ct_NoLine => k_is)
    (case cd_NoLine => k_is)
    (case ca_NoNames => k_is)
    (case cb_NoNames => k_is)
    (case ct_NoNames => k_is)
    (case cd_NoNames => k_is)
    (case ca_NoNumber => k_is)
    (case cb_NoNumber => k_is)
    (case ct_NoNumber => k_is)
    (case cd_NoNumber => k_is)
    (case ca_NoWeights => k_is)
    (case cb_NoWeights => k_is)
    (case ct_NoWeights => k_is)
    (case cd_NoWeights => k_is)
    (case ca_FolkError => k_is)
    (case cb_FolkError => k_is)
    (case ct_FolkError => k_is)
    (case cd_FolkError => k_is)
    (case ck_NoFall => k_is)
    (case cv_NoFall => k_is)
    (case cg_NoFall => k_is)
    (case ch_NoFall => k_is)
    (case cc_NoFall => k_is)
    (case cm_NoFall => k_is)
    (case cf_NoFall => k_is)
    (case cp_NoFall_NoFall => k_is)
    (case cp_NoFall_NoFit => k_is)
    (case cp_NoFall_NoFolk => k_is)
    (case cp_NoFall_NoLine => k_is)
    (case cp_NoFall_NoNames => k_is)
    (case cp_NoFall_NoNumber => k_is)
    (case cp_NoFall_NoWeights => k_is)
    (case cx_NoFit => k_exc)
    (case ck_NoFit => k_is)
    (case cv_NoFit => k_is)
    (case cg_NoFit => k_is)
    (case ch_NoFit => k_is)
    (case cc_NoFit => k_is)
    (case cm_NoFit => k_is)
    (case cf_NoFit => k_is)
    (case cp_NoFit_NoFall => k_is)
    (case cp_NoFit_NoFit => k_is)
    (case cp_NoFit_NoFolk => k_is)
    (case cp_NoFit_NoLine => k_is)
    (case cp_NoFit_NoNames => k_is)
    (case cp_NoFit_NoNumber => k_is)
    (case cp_NoFit_NoWeights => k_is)
    (case cx_NoFolk => k_exc)
    (case ck_NoFolk => k_is)
    (case cv_NoFolk => k_is)
    (case cg_NoFolk => k_is)
    (case ch_NoFolk => k_is)
    (case cc_NoFolk => k_is)
    (case cm_NoFolk => k_is)
    (case cf_NoFolk => k_is)
    (case cp_NoFolk_NoFall => k_is)
    (case cp_NoFolk_NoFit => k_is)
    (case cp_NoFolk_NoFolk => k_is)
    (case cp_NoFolk_NoLine => k_is)
    (case cp_NoFolk_NoNames => k_is)
    (case cp_NoFolk_NoNumber => k_is)
    (case cp_NoFolk_NoWeights => k_is)
    (case cx_NoLine => k_exc)
    (case ck_NoLine => k_is)
    (case cv_NoLine => k_is)
    (case cg_NoLine => k_is)
    (case ch_NoLine => k_is)
    (case cc_NoLine => k_is)
    (case cm_NoLine => k_is)
    (case cf_NoLine => k_is)
    (case cp_NoLine_NoFall => k_is)
    (case cp_NoLine_NoFit => k_is)
    (case cp_NoLine_NoFolk => k_is)
    (case cp_NoLine_NoLine => k_is)
    (case cp_NoLine_NoNames => k_is)
    (case cp_NoLine_NoNumber => k_is)
    (case cp_NoLine_NoWeights => k_is)
    (case cx_NoNames => k_exc)
    (case ck_NoNames => k_is)
    (case cv_NoNames => k_is)
    (case cg_NoNames => k_is)
    (case ch_NoNames => k_is)
    (case cc_NoNames => k_is)
    (case cm_NoNames => k_is)
    (case cf_NoNames => k_is)
    (case cp_NoNames_NoFall => k_is)
    (case cp_NoNames_NoFit => k_is)
    (case cp_NoNames_NoFolk => k_is)
    (case cp_NoNames_NoLine => k_is)
    (case cp_NoNames_NoNames => k_is)
    (case cp_NoNames_NoNumber => k_is)
    (case cp_NoNames_NoWeights => k_is)
    (case cx_NoNumber => k_exc)
    (case ck_NoNumber => k_is)
    (case cv_NoNumber => k_is)
    (case cg_NoNumber => k_is)
    (case ch_NoNumber => k_is)
    (case cc_NoNumber => k_is)
    (case cm_NoNumber => k_is)
    (case cf_NoNumber => k_is)
    (case cp_NoNumber_NoFall => k_is)
    (case cp_NoNumber_NoFit => k_is)
    (case cp_NoNumber_NoFolk => k_is)
    (case cp_NoNumber_NoLine => k_is)
    (case cp_NoNumber_NoNames => k_is)
    (case cp_NoNumber_NoNumber => k_is)
    (case cp_NoNumber_NoWeights => k_is)
    (case cx_NoWeights => k_exc)
    (case ck_NoWeights => k_is)
    (case cv_NoWeights => k_is)
    (case cg_NoWeights => k_is)
    (case ch_NoWeights => k_is)
    (case cc_NoWeights => k_is)
    (case cm_NoWeights => k_is)
    (case cf_NoWeights => k_is)
    (case cp_NoWeights_NoFall => k_is)
    (case cp_NoWeights_NoFit => k_is)
    (case cp_NoWeights_NoFolk => k_is)
    (case cp_NoWeights_NoLine => k_is)
    (case cp_NoWeights_NoNames => k_is)
    (case cp_NoWeights_NoNumber => k_is)
    (case cp_NoWeights_NoWeights => k_is)
    (case ca_NoBack => k_is)
    (case ct_NoBack => k_is)
    (case cd_NoBack => k_is)
    (case cp_NoFall_NoBack => k_is)
    (case cp_NoFit_NoBack => k_is)
    (case cp_NoFolk_NoBack => k_is)
    (case cp_NoLine_NoBack => k_is)
    (case cp_NoNames_NoBack => k_is)
    (case cp_NoNumber_NoBack => k_is)
    (case cp_NoWeights_NoBack => k_is)
    (case ca_NoFixed => k_is)
    (case ct_NoFixed => k_is)
    (case cd_NoFixed => k_is)
    (case cp_NoFall_NoFixed => k_is)
    (case cp_NoFit_NoFixed => k_is)
    (case cp_NoFolk_NoFixed => k_is)
    (case cp_NoLine_NoFixed => k_is)
    (case cp_NoNames_NoFixed => k_is)
    (case cp_NoNumber_NoFixed => k_is)
    (case cp_NoWeights_NoFixed => k_is)
    (case ca_NoHand => k_is)
    (case ct_NoHand => k_is)
    (case cd_NoHand => k_is)
    (case cp_NoFall_NoHand => k_is)
    (case cp_NoFit_NoHand => k_is)
    (case cp_NoFolk_NoHand => k_is)
    (case cp_NoLine_NoHand => k_is)
    (case cp_NoNames_NoHand => k_is)
    (case cp_NoNumber_NoHand => k_is)
    (case cp_NoWeights_NoHand => k_is)
    (case ca_NoPaper => k_is)
    (case ct_NoPaper => k_is)
    (case cd_NoPaper => k_is)
    (case cp_NoFall_NoPaper => k_is)
    (case cp_NoFit_NoPaper => k_is)
    (case cp_NoFolk_NoPaper => k_is)
    (case cp_NoLine_NoPaper => k_is)
    (case cp_NoNames_NoPaper => k_is)
    (case cp_NoNumber_NoPaper => k_is)
    (case cp_NoWeights_NoPaper => k_is)
    (case ca_NoRanking => k_is)
    (case ct_NoRanking => k_is)
    (case cd_NoRanking => k_is)
    (case cp_NoFall_NoRanking => k_is)
    (case cp_NoFit_NoRanking => k_is)
    (case cp_NoFolk_NoRanking => k_is)
    (case cp_NoLine_NoRanking => k_is)
    (case cp_NoNames_NoRanking => k_is)
    (case cp_NoNumber_NoRanking => k_is)
    (case cp_NoWeights_NoRanking => k_is)
    (case ca_NoRow => k_is)
    (case ct_NoRow => k_is)
    (case cd_NoRow => k_is)
    (case cp_NoFall_NoRow => k_is)
    (case cp_NoFit_NoRow => k_is)
    (case cp_NoFolk_NoRow => k_is)
    (case cp_NoLine_NoRow => k_is)
    (case cp_NoNames_NoRow => k_is)
    (case cp_NoNumber_NoRow => k_is)
    (case cp_NoWeights_NoRow => k_is)
    (case ca_NoRule => k_is)
    (case ct_NoRule => k_is)
    (case cd_NoRule => k_is)
    (case cp_NoFall_NoRule => k_is)
    (case cp_NoFit_NoRule => k_is)
    (case cp_NoFolk_NoRule => k_is)
    (case cp_NoLine_NoRule => k_is)
    (case cp_NoNames_NoRule => k_is)
    (case cp_NoNumber_NoRule => k_is)
    (case cp_NoWeights_NoRule => k_is)
    (case ca_NoText => k_is)
    (case ct_NoText => k_is)
    (case cd_NoText => k_is)
    (case cp_NoFall_NoText => k_is)
    (case cp_NoFit_NoText => k_is)
    (case cp_NoFolk_NoText => k_is)
    (case cp_NoLine_NoText => k_is)
    (case cp_NoNames_NoText => k_is)
    (case cp_NoNumber_NoText => k_is)
    (case cp_NoWeights_NoText => k_is)
    (case ca_NoTitle => k_is)
    (case ct_NoTitle => k_is)
    (case cd_NoTitle => k_is)
    (case cp_NoFall_NoTitle => k_is)
    (case cp_NoFit_NoTitle => k_is)
    (case cp_NoFolk_NoTitle => k_is)
    (case cp_NoLine_NoTitle => k_is)
    (case cp_NoNames_NoTitle => k_is)
    (case cp_NoNumber_NoTitle => k_is)
    (case cp_NoWeights_NoTitle => k_is)
    (case ca_NoTops => k_is)
    (case ct_NoTops => k_is)
    (case cd_NoTops => k_is)
    (case cp_NoFall_NoTops => k_is)
    (case cp_NoFit_NoTops => k_is)
    (case cp_NoFolk_NoTops => k_is)
    (case cp_NoLine_NoTops => k_is)
    (case cp_NoNames_NoTops => k_is)
    (case cp_NoNumber_NoTops => k_is)
    (case cp_NoWeights_NoTops => k_is)
    (case ca_NoTree => k_is)
    (case ct_NoTree => k_is)
    (case cd_NoTree => k_is)
    (case cp_NoFall_NoTree => k_is)
    (case cp_NoFit_NoTree => k_is)
    (case cp_NoFolk_NoTree => k_is)
    (case cp_NoLine_NoTree => k_is)
    (case cp_NoNames_NoTree => k_is)
    (case cp_NoNumber_NoTree => k_is)
    (case cp_NoWeights_NoTree => k_is)
    (case ca_TooGreat => k_is)
    (case ct_TooGreat => k_is)
    (case cd_TooGreat => k_is)
    (case cp_NoFall_TooGreat => k_is)
    (case cp_NoFit_TooGreat => k_is)
    (case cp_NoFolk_TooGreat => k_is)
    (case cp_NoLine_TooGreat => k_is)
    (case cp_NoNames_TooGreat => k_is)
    (case cp_NoNumber_TooGreat => k_is)
    (case cp_NoWeights_TooGreat => k_is)
    (case co_NoFall => k_is)
    (case gk_NoFall => rfl)
    (case cs_NoFall => k_is)
    (case cn_NoFall => k_is)
    (case ci_NoFall => k_is)
    (case cy_NoFall => k_is)
    (case cl_NoFall => k_is)
    (case cc2_NoFall => k_is)
    (case ck2_NoFall => k_is)
    (case cr_F => k_is)
    (case cg_F => k_is)
    (case cf_F => k_is)
    (case c0_s => k_is)
    (case c0_t => k_is)
