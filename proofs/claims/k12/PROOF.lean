import PyProof.Rows.All
import Wide.All
import OpenK.AllK
import Wide.FinOn
import HandS.ForMost
import HandS.ForSpec
import HandS.Evl
import HandS.Deep
import HandS.IsInst
import HandS.SortInts
import HandS.Style
import HandS.NoneIn
import HandS.Wide
import HandS.TupAny
import KE.DataEq
import KE.SortCalls
import HandS.Remove
import HandS.SetFor
import HandS.Strs
import HandS.Conv
import PyProof.StrLawsRepr
import HandS.ExcIs
import HandS.ExcOwn
import HandS.ExcValue
import PySem.Challenge.RW_ontheline_k12_lines_of_a_folk
set_option Elab.async false
set_option linter.all false
set_option maxRecDepth 100000
set_option maxHeartbeats 4000000
/-! DL: a layer of values over the layer of heaps -/
noncomputable section
namespace DL
open PySem L2
open Evl (Ex)

/-! ### data -/
structure Exn where
  name : String
  arg : Option PyData
/-- other things that are known: a dict of data, an exception, a set of ints -/
inductive OD where
  | dict (kvs : List (Key × PyData)) | exc (x : Exn) | set (S : Int → Bool) (n : Nat) | scr (ns : List Int)
inductive R where
  | val (d : PyData) | new (ds : List PyData) | slot (i : Nat) | raw (v : V) | ob (o : OD)
inductive Sl where
  | no | val (d : PyData) | own (ds : List PyData) | raw (v : V) | ob (o : OD)
abbrev Pw := Option (Addr × Addr × List Int × Int)
structure DSt where
  d : List Sl
  w : Pw
inductive Res (α : Type) where
  | ok (a : α) (s : DSt) | err (x : Exn) (s : DSt) | stuck
inductive Flow where
  | next (s : DSt) | ret (r : R) (s : DSt) | brk (s : DSt) | cnt (s : DSt) | err (x : Exn) (s : DSt) | stuck
inductive FRes where
  | ok (r : R) (w : Pw) | err (x : Exn) (w : Pw) | stuck

abbrev M (α : Type) := DSt → Res α
/-- bounds, kept shut: the kernel must not count up to them -/
def inB (j : Int) : Prop := -(2 ^ 62) ≤ j ∧ j < 2 ^ 62
instance (j : Int) : Decidable (inB j) := Classical.propDecidable _
def inW (j : Int) : Prop := -(2 ^ 63) ≤ j ∧ j < 2 ^ 63
instance (j : Int) : Decidable (inW j) := Classical.propDecidable _
def leS (n : Nat) : Prop := n ≤ sizeLine
instance (n : Nat) : Decidable (leS n) := Classical.propDecidable _
def ltS (n : Nat) : Prop := n < sizeLine
instance (n : Nat) : Decidable (ltS n) := Classical.propDecidable _
def lgM (a b : Int) : Prop := a.natAbs.log2 + b.natAbs.log2 < 1000000
instance (a b : Int) : Decidable (lgM a b) := Classical.propDecidable _
def lgD (a : Int) : Prop := a.natAbs.log2 < 9000
instance (a : Int) : Decidable (lgD a) := Classical.propDecidable _
def lgP (a : Int) : Prop := a.natAbs.log2 < 4000
instance (a : Int) : Decidable (lgP a) := Classical.propDecidable _
def leP (a : Int) : Prop := a ≤ 30000
instance (a : Int) : Decidable (leP a) := Classical.propDecidable _
def Res.bind {α β : Type} (r : Res α) (g : α → M β) : Res β := match r with
  | .ok a s => g a s
  | .err x s => .err x s
  | .stuck => .stuck
def bnd {α β : Type} (f : M α) (g : α → M β) : M β := fun s => (f s).bind g
def ret {α : Type} (a : α) : M α := fun s => .ok a s
def stk {α : Type} : M α := fun _ => .stuck
@[simp] theorem bnd_app {α β : Type} (f : M α) (g : α → M β) (s : DSt) : bnd f g s = (f s).bind g := rfl
@[simp] theorem bind_ok {α β : Type} (a : α) (s : DSt) (g : α → M β) : (Res.ok a s).bind g = g a s := rfl
@[simp] theorem bind_err {α β : Type} (x : Exn) (s : DSt) (g : α → M β) : (Res.err x s : Res α).bind g = .err x s := rfl
@[simp] theorem bind_stuck {α β : Type} (g : α → M β) : (Res.stuck : Res α).bind g = .stuck := rfl
@[simp] theorem ret_app {α : Type} (a : α) (s : DSt) : ret a s = .ok a s := rfl
@[simp] theorem stk_app {α : Type} (s : DSt) : (stk s : Res α) = .stuck := rfl

/-! ### data as it stands in a heap -/
mutual
inductive Rp (K : PySem.W.Frag) (H : Hp) : V → PyData → Prop
  | non : Rp K H .non .none
  | bl (b : Bool) : Rp K H (.bl b) (.bool b)
  | int (i : Int) : Rp K H (.int i) (.int i)
  | str (x : Str) : Rp K H (.str x) (.str x)
  | lst {a : Addr} {xs : List V} {ds : List PyData} : H a = some (.lst xs) → RpAll K H xs ds → Rp K H (.ref a) (.list ds)
  | tup {a : Addr} {xs : List V} {ds : List PyData} : SqT K H a xs → RpAll K H xs ds → Rp K H (.ref a) (.tuple ds)
inductive RpAll (K : PySem.W.Frag) (H : Hp) : List V → List PyData → Prop
  | nil : RpAll K H [] []
  | cons {v : V} {vs : List V} {d : PyData} {ds : List PyData} : Rp K H v d → RpAll K H vs ds → RpAll K H (v :: vs) (d :: ds)
end
mutual
theorem rp_dp {K : PySem.W.Frag} {H : Hp} : ∀ (d : PyData) (v : V), Rp K H v d → Dp K H v d
  | .none, _, h => by cases h; exact .non
  | .bool b, _, h => by cases h; exact .bl b
  | .int i, _, h => by cases h; exact .int i
  | .str x, _, h => by cases h; exact .str x
  | .list ds, _, h => by
    cases h with
    | lst hs ha => exact .lst (.of hs) (rps_dps ds _ ha)
  | .tuple ds, _, h => by
    cases h with
    | tup hs ha => exact .tup hs (rps_dps ds _ ha)
  | .dict _, _, h => by cases h
theorem rps_dps {K : PySem.W.Frag} {H : Hp} : ∀ (ds : List PyData) (vs : List V), RpAll K H vs ds → DpAll K H vs ds
  | [], _, h => by cases h; exact .nil
  | d :: ds, _, h => by
    cases h with
    | cons h1 h2 => exact .cons (rp_dp d _ h1) (rps_dps ds _ h2)
end
mutual
theorem rp_plain {K : PySem.W.Frag} {H : Hp} : ∀ (d : PyData) (v : V), Rp K H v d → d.plain = true
  | .none, _, _ => rfl
  | .bool b, _, _ => rfl
  | .int i, _, _ => rfl
  | .str x, _, _ => rfl
  | .list ds, _, h => by
    cases h with
    | lst hs ha => simp only [PyData.plain]; exact rps_plain ds _ ha
  | .tuple ds, _, h => by
    cases h with
    | tup hs ha => simp only [PyData.plain]; exact rps_plain ds _ ha
  | .dict _, _, h => by cases h
theorem rps_plain {K : PySem.W.Frag} {H : Hp} : ∀ (ds : List PyData) (vs : List V), RpAll K H vs ds → PyData.plainAll ds = true
  | [], _, h => rfl
  | d :: ds, _, h => by
    cases h with
    | cons h1 h2 => simp [PyData.plainAll, rp_plain d _ h1, rps_plain ds _ h2]
end
mutual
theorem dp_mono {K : PySem.W.Frag} {H H' : Hp} (e : Ex H H') : ∀ (d : PyData) (v : V), Rp K H v d → Rp K H' v d
  | .none, _, h => by cases h; exact .non
  | .bool b, _, h => by cases h; exact .bl b
  | .int i, _, h => by cases h; exact .int i
  | .str x, _, h => by cases h; exact .str x
  | .list ds, _, h => by
    cases h with
    | lst hs ha => exact .lst (e _ _ hs) (dps_mono e ds _ ha)
  | .tuple ds, _, h => by
    cases h with
    | tup hs ha => exact .tup (Evl.ex_t e hs) (dps_mono e ds _ ha)
  | .dict _, _, h => by cases h
theorem dps_mono {K : PySem.W.Frag} {H H' : Hp} (e : Ex H H') : ∀ (ds : List PyData) (vs : List V), RpAll K H vs ds → RpAll K H' vs ds
  | [], _, h => by cases h; exact .nil
  | d :: ds, _, h => by
    cases h with
    | cons h1 h2 => exact .cons (dp_mono e d _ h1) (dps_mono e ds _ h2)
end
theorem dps_len {K : PySem.W.Frag} {H : Hp} : ∀ {ds : List PyData} {vs : List V}, RpAll K H vs ds → vs.length = ds.length
  | [], _, h => by cases h; rfl
  | d :: ds, _, h => by
    cases h with
    | cons h1 h2 => simp [dps_len h2]
theorem dps_get {K : PySem.W.Frag} {H : Hp} : ∀ {ds : List PyData} {vs : List V} {i : Nat} {v : V}, RpAll K H vs ds → vs[i]? = some v → ∃ d, ds[i]? = some d ∧ Rp K H v d
  | [], _, i, v, h, e => by cases h; simp at e
  | d :: ds, _, 0, v, h, e => by
    cases h with
    | cons h1 h2 => simp at e; subst e; exact ⟨d, rfl, h1⟩
  | d :: ds, _, i + 1, v, h, e => by
    cases h with
    | cons h1 h2 => simpa using dps_get (i := i) h2 (by simpa using e)
theorem dps_app {K : PySem.W.Frag} {H : Hp} : ∀ {ds es : List PyData} {vs us : List V}, RpAll K H vs ds → RpAll K H us es → RpAll K H (vs ++ us) (ds ++ es)
  | [], _, _, _, h, h' => by cases h; exact h'
  | d :: ds, _, _, _, h, h' => by
    cases h with
    | cons h1 h2 => exact .cons h1 (dps_app h2 h')
theorem dps_rev {K : PySem.W.Frag} {H : Hp} : ∀ {ds : List PyData} {vs : List V}, RpAll K H vs ds → RpAll K H vs.reverse ds.reverse
  | [], _, h => by cases h; exact .nil
  | d :: ds, _, h => by
    cases h with
    | cons h1 h2 => simp only [List.reverse_cons]; exact dps_app (dps_rev h2) (.cons h1 .nil)
theorem dps_take {K : PySem.W.Frag} {H : Hp} : ∀ {ds : List PyData} {vs : List V} (n : Nat), RpAll K H vs ds → RpAll K H (vs.take n) (ds.take n)
  | _, _, 0, _ => by simp; exact .nil
  | [], _, n + 1, h => by cases h; exact .nil
  | d :: ds, _, n + 1, h => by
    cases h with
    | cons h1 h2 => exact .cons h1 (dps_take n h2)
theorem dps_drop {K : PySem.W.Frag} {H : Hp} : ∀ {ds : List PyData} {vs : List V} (n : Nat), RpAll K H vs ds → RpAll K H (vs.drop n) (ds.drop n)
  | _, _, 0, h => by simpa using h
  | [], _, n + 1, h => by cases h; exact .nil
  | d :: ds, _, n + 1, h => by
    cases h with
    | cons h1 h2 => exact dps_drop n h2
theorem dps_set {K : PySem.W.Frag} {H : Hp} {v : V} {d : PyData} (q : Rp K H v d) : ∀ {ds : List PyData} {vs : List V} (n : Nat), RpAll K H vs ds → RpAll K H (vs.set n v) (ds.set n d)
  | [], _, n, h => by cases h; exact .nil
  | _ :: ds, _, 0, h => by
    cases h with
    | cons h1 h2 => exact .cons q h2
  | _ :: ds, _, n + 1, h => by
    cases h with
    | cons h1 h2 => exact .cons h1 (dps_set q n h2)
theorem dps_erase {K : PySem.W.Frag} {H : Hp} : ∀ {ds : List PyData} {vs : List V} (n : Nat), RpAll K H vs ds → RpAll K H (vs.eraseIdx n) (ds.eraseIdx n)
  | [], _, n, h => by cases h; exact .nil
  | _ :: ds, _, 0, h => by
    cases h with
    | cons h1 h2 => exact h2
  | _ :: ds, _, n + 1, h => by
    cases h with
    | cons h1 h2 => exact .cons h1 (dps_erase n h2)

/-! ### other things -/
/-- the class of a name, as the written part has it -/
def clOf (K : PySem.W.Frag) (n : String) : Addr := match PySem.W.nsIn K mainGlobals (Str.ofString n) with
  | some (some (.ref a)) => a
  | _ => 0
theorem clOf_of {K : PySem.W.Frag} {n : String} {a : Addr} (h : PySem.W.nsIn K mainGlobals (Str.ofString n) = some (some (.ref a))) : clOf K n = a := by
  unfold clOf
  rw [h]
/-- the field of an exception that bears its argument -/
def fieldOf (n : String) : Str := if n = "NoFall" then "hand" else "at"
def ExA (K : PySem.W.Frag) (H : Hp) (n : String) (d : Option Addr) : Option PyData → Prop
  | none => d = none
  | some e => ∃ dd v, d = some dd ∧ H dd = some (.xd [(fieldOf n, v)]) ∧ Rp K H v e
/-- a caught exception -/
def excO (a : Addr) (cls : Value) (d : Option Addr) : HO := .ext fun h => ∃ o, h.get? a = some o ∧ Zc cls d o ∧ ∃ vs, o.data = .fields vs
inductive KRp (K : PySem.W.Frag) (H : Hp) : List (Key × V) → List (Key × PyData) → Prop
  | nil : KRp K H [] []
  | cons {k : Key} {v : V} {d : PyData} {xs : List (Key × V)} {ys : List (Key × PyData)} : Rp K H v d → KRp K H xs ys → KRp K H ((k, v) :: xs) ((k, d) :: ys)
def ObRel (K : PySem.W.Frag) (H : Hp) (v : V) : OD → Prop
  | .dict kvs => ∃ a vs, v = .ref a ∧ H a = some (.dK vs) ∧ KRp K H vs kvs
  | .exc x => ∃ a d, v = .ref a ∧ H a = some (excO a (.ref (clOf K x.name)) d) ∧ ExA K H x.name d x.arg
  | .set S n => ∃ a, v = .ref a ∧ H a = some (.set S n)
  | .scr ns => ∃ a, v = .ref a ∧ SqL K H a (ns.map V.int)
theorem krp_mono {K : PySem.W.Frag} {H H' : Hp} (e : Ex H H') : ∀ {vs : List (Key × V)} {kvs : List (Key × PyData)}, KRp K H vs kvs → KRp K H' vs kvs
  | _, _, .nil => .nil
  | _, _, .cons h t => .cons (dp_mono e _ _ h) (krp_mono e t)
theorem exa_mono {K : PySem.W.Frag} {H H' : Hp} (e : Ex H H') {n : String} {d : Option Addr} : ∀ {o : Option PyData}, ExA K H n d o → ExA K H' n d o
  | none, h => h
  | some x, ⟨dd, v, h1, h2, h3⟩ => ⟨dd, v, h1, e _ _ h2, dp_mono e _ _ h3⟩
theorem ob_mono {K : PySem.W.Frag} {H H' : Hp} (e : Ex H H') {v : V} : ∀ {o : OD}, ObRel K H v o → ObRel K H' v o
  | .dict kvs, ⟨a, vs, h1, h2, h3⟩ => ⟨a, vs, h1, e _ _ h2, krp_mono e h3⟩
  | .exc x, ⟨a, d, h1, h2, h3⟩ => ⟨a, d, h1, e _ _ h2, exa_mono e h3⟩
  | .set S n, ⟨a, h1, h2⟩ => ⟨a, h1, e _ _ h2⟩
  | .scr ns, ⟨a, h1, h2⟩ => ⟨a, h1, Evl.ex_l e h2⟩

/-! ### the state -/
def POwn (w : Pw) (a : Addr) : Prop := match w with
  | none => False
  | some (pa, ca, _, _) => a = pa ∨ a = ca
def OwnAt (s : DSt) (σ : L2.St) (i : Nat) (a : Addr) : Prop := (∃ ds, s.d[i]? = some (.own ds)) ∧ σ[i]? = some (some (.ref a))
def Own (s : DSt) (σ : L2.St) (a : Addr) : Prop := (∃ i, OwnAt s σ i a) ∨ POwn s.w a
def PwOk (G : Hp) (w : Pw) (H : Hp) : Prop := match w with
  | none => True
  | some (pa, ca, cells, t) => pa ≠ ca ∧ H pa = some (.lst [.ref ca, .int t]) ∧ H ca = some (.lst (cells.map .int)) ∧ G pa = none ∧ G ca = none
def SlOk (K : PySem.W.Frag) (G H : Hp) (x : Option V) : Sl → Prop
  | .no => True
  | .val d => ∃ v, x = some v ∧ Rp K G v d
  | .raw v => x = some v
  | .ob o => ∃ v, x = some v ∧ ObRel K G v o
  | .own ds => ∃ a xs, x = some (.ref a) ∧ H a = some (.lst xs) ∧ RpAll K G xs ds
structure SA (K : PySem.W.Frag) (G : Hp) (s : DSt) (σ : L2.St) (H : Hp) : Prop where
  len : s.d.length = σ.length
  gh : Ex G H
  slot : ∀ (i : Nat) (sl : Sl), s.d[i]? = some sl → SlOk K G H (σ[i]?.join) sl
  inj : ∀ i j a, OwnAt s σ i a → OwnAt s σ j a → i = j
  ownG : ∀ i a, OwnAt s σ i a → G a = none
  pw : PwOk G s.w H
  pne : ∀ i a, OwnAt s σ i a → ¬ POwn s.w a
/-- what a piece of code may have done -/
structure Stp (G : Hp) (s : DSt) (σ : L2.St) (H : Hp) (G' : Hp) (s' : DSt) (σ' : L2.St) (H' : Hp) : Prop where
  ex : Ex G G'
  keep : ∀ a o, H a = some o → ¬ Own s σ a → H' a = some o ∧ G' a = G a
  own : ∀ a, Own s' σ' a → Own s σ a ∨ H a = none
  dom : ∀ a, H a ≠ none → H' a ≠ none
  pw : ∀ a, POwn s.w a → POwn s'.w a
theorem Stp.refl {G H : Hp} {s : DSt} {σ : L2.St} : Stp G s σ H G s σ H := ⟨Ex.refl G, fun _ _ h _ => ⟨h, rfl⟩, fun _ h => .inl h, fun _ h => h, fun _ h => h⟩
theorem Stp.trans {G G1 G2 H H1 H2 : Hp} {s s1 s2 : DSt} {σ σ1 σ2 : L2.St} (a : Stp G s σ H G1 s1 σ1 H1) (b : Stp G1 s1 σ1 H1 G2 s2 σ2 H2) : Stp G s σ H G2 s2 σ2 H2 where
  ex := a.ex.trans b.ex
  keep := fun x o h n => by
    obtain ⟨h1, g1⟩ := a.keep x o h n
    have n1 : ¬ Own s1 σ1 x := fun z => (a.own x z).elim n fun e => by rw [h] at e; cases e
    obtain ⟨h2, g2⟩ := b.keep x o h1 n1
    exact ⟨h2, g2.trans g1⟩
  own := fun x z => (b.own x z).elim (a.own x) fun e => .inr (Classical.byContradiction fun q => a.dom x q e)
  dom := fun x h => b.dom x (a.dom x h)
  pw := fun x h => b.pw x (a.pw x h)
/-- what a result is -/
def RRel (K : PySem.W.Frag) (H0 G : Hp) (s : DSt) (σ : L2.St) (H : Hp) (v : V) : R → Prop
  | .val d => Rp K G v d
  | .raw u => v = u
  | .ob o => ObRel K G v o
  | .slot i => σ[i]? = some (some v)
  | .new ds => ∃ a xs, v = .ref a ∧ H a = some (.lst xs) ∧ RpAll K G xs ds ∧ G a = none ∧ H0 a = none ∧ ¬ Own s σ a
theorem RRel.mono {K : PySem.W.Frag} {H0 G H G' H' : Hp} {s s' : DSt} {σ : L2.St} {v : V} {r : R} (h : RRel K H0 G s σ H v r) (t : Stp G s σ H G' s' σ H') : RRel K H0 G' s' σ H' v r := by
  cases r with
  | val d => exact dp_mono t.ex d v h
  | raw u => exact h
  | ob o => exact ob_mono t.ex h
  | slot i => exact h
  | new ds =>
    obtain ⟨a, xs, e, ha, hd, hg, h0, hn⟩ := h
    obtain ⟨h1, g1⟩ := t.keep a _ ha hn
    refine ⟨a, xs, e, h1, dps_mono t.ex _ _ hd, g1.trans hg, h0, fun z => (t.own a z).elim hn fun q => by rw [ha] at q; cases q⟩
theorem RRel.less {K : PySem.W.Frag} {H0 H1 G H : Hp} {s : DSt} {σ : L2.St} {v : V} {r : R} (h : RRel K H1 G s σ H v r) (d : ∀ a, H0 a ≠ none → H1 a ≠ none) : RRel K H0 G s σ H v r := by
  cases r with
  | val d => exact h
  | raw u => exact h
  | ob o => exact h
  | slot i => exact h
  | new ds =>
    obtain ⟨a, xs, e, ha, hd, hg, h0, hn⟩ := h
    exact ⟨a, xs, e, ha, hd, hg, Classical.byContradiction fun q => d a q h0, hn⟩
/-- the content of a result now -/
def look (r : R) (s : DSt) : Option PyData := match r with
  | .val d => some d
  | .raw _ => none
  | .ob _ => none
  | .new ds => some (.list ds)
  | .slot i => match s.d[i]? with
    | some (.own ds) => some (.list ds)
    | some (.val d) => some d
    | _ => none
theorem look_ok {K : PySem.W.Frag} {H0 G H : Hp} {s : DSt} {σ : L2.St} {v : V} {r : R} {d : PyData} (S : SA K G s σ H) (h : RRel K H0 G s σ H v r) (e : look r s = some d) : Rp K H v d := by
  cases r with
  | val d' => cases e; exact dp_mono S.gh _ _ h
  | raw u => cases e
  | ob o => cases e
  | new ds =>
    cases e
    obtain ⟨a, xs, rfl, ha, hd, _⟩ := h
    exact .lst ha (dps_mono S.gh _ _ hd)
  | slot i =>
    simp only [look] at e
    have h' : σ[i]? = some (some v) := h
    split at e
    · rename_i ds q
      cases e
      obtain ⟨a, xs, e1, ha, hd⟩ := S.slot i _ q
      rw [h'] at e1
      cases e1
      exact .lst ha (dps_mono S.gh _ _ hd)
    · rename_i d' q
      cases e
      obtain ⟨u, e1, hd⟩ := S.slot i _ q
      rw [h'] at e1
      cases e1
      exact dp_mono S.gh _ _ hd
    · cases e
end DL

/-! DL2: the judgements -/
noncomputable section
namespace DL
open PySem L2
open Evl (Ex)

def XRel (K : PySem.W.Frag) (cl : String → Addr) (x : Exn) (cls : Value) (d : Option Addr) (H : Hp) : Prop :=
  cls = .ref (cl x.name) ∧ ExA K H x.name d x.arg
section
variable (K : PySem.W.Frag) (cl : String → Addr) (W : WX)
def Out {α : Type} (G : Hp) (s : DSt) (σ : L2.St) (H : Hp) (r : Res α) (k : α → Hp → DSt → Hp → Prop) : Prop := match r with
  | .ok a s' => ∀ G' H', Stp G s σ H G' s' σ H' → SA K G' s' σ H' → k a G' s' H'
  | .err x s' => ∀ cls d G' H', Stp G s σ H G' s' σ H' → SA K G' s' σ H' → XRel K cl x cls d H' → W cls d σ H'
  | .stuck => False
def tD (f : M R) : TE := fun σ H Q => ∃ G s, SA K G s σ H ∧ Out K cl W G s σ H (f s) fun r G' s' H' => ∀ v, RRel K H G' s' σ H' v r → Q v H'
def tT (f : M Bool) : TT := fun σ H Q => ∃ G s, SA K G s σ H ∧ Out K cl W G s σ H (f s) fun b _ _ H' => Q b H'
def RRels (H0 G : Hp) (s : DSt) (σ : L2.St) (H : Hp) : List V → List R → Prop := Paired fun v r => RRel K H0 G s σ H v r
def tA (f : M (List R)) : TA := fun σ H Q => ∃ G s, SA K G s σ H ∧ Out K cl W G s σ H (f s) fun rs G' s' H' => ∀ vs, RRels K H G' s' σ H' vs rs → Q vs H'
def FOut (G : Hp) (s : DSt) (σ : L2.St) (H : Hp) (fl : Flow) (D : Ends) : Prop := match fl with
  | .next s' => ∀ G' σ' H', Stp G s σ H G' s' σ' H' → SA K G' s' σ' H' → D.nx σ' H'
  | .brk s' => ∀ G' σ' H', Stp G s σ H G' s' σ' H' → SA K G' s' σ' H' → D.bk σ' H'
  | .cnt s' => ∀ G' σ' H', Stp G s σ H G' s' σ' H' → SA K G' s' σ' H' → D.ct σ' H'
  | .ret r s' => ∀ v G' σ' H', Stp G s σ H G' s' σ' H' → SA K G' s' σ' H' → RRel K H G' s' σ' H' v r → D.rt v H'
  | .err x s' => ∀ cls d G' σ' H', Stp G s σ H G' s' σ' H' → SA K G' s' σ' H' → XRel K cl x cls d H' → W cls d σ' H'
  | .stuck => False
def tS (f : DSt → Flow) : TS := fun D σ H => ∃ G s, SA K G s σ H ∧ FOut K cl W G s σ H (f s) D
end
section
variable {K : PySem.W.Frag} {cl : String → Addr} {W : WX} {G H : Hp} {s : DSt} {σ : L2.St}
theorem out_mono {α : Type} {r : Res α} {k k' : α → Hp → DSt → Hp → Prop} (h : Out K cl W G s σ H r k) (i : ∀ a G' s' H', Stp G s σ H G' s' σ H' → SA K G' s' σ H' → k a G' s' H' → k' a G' s' H') : Out K cl W G s σ H r k' := by
  cases r with
  | ok a s' => exact fun G' H' st sa => i a G' s' H' st sa (h G' H' st sa)
  | err x s' => exact h
  | stuck => exact h
theorem out_bind {α β : Type} {r : Res α} {g : α → M β} {k : β → Hp → DSt → Hp → Prop} (h : Out K cl W G s σ H (r.bind g) k) :
    Out K cl W G s σ H r fun a G1 s1 H1 => Out K cl W G1 s1 σ H1 (g a s1) fun b G2 s2 H2 => k b G2 s2 H2 := by
  cases r with
  | ok a s' =>
    intro G1 H1 st sa
    have h : Out K cl W G s σ H (g a s') k := h
    cases e : g a s' with
    | ok b s2 => rw [e] at h; exact fun G2 H2 st2 sa2 => h G2 H2 (st.trans st2) sa2
    | err x s2 => rw [e] at h; exact fun c d G2 H2 st2 sa2 xr => h c d G2 H2 (st.trans st2) sa2 xr
    | stuck => rw [e] at h; exact h
  | err x s' => exact h
  | stuck => exact h
theorem out_ret {α : Type} {a : α} {k : α → Hp → DSt → Hp → Prop} (S : SA K G s σ H) (h : Out K cl W G s σ H (.ok a s) k) : k a G s H := h G H Stp.refl S
theorem tD_of {f : M R} {Q : VK} (S : SA K G s σ H) (h : Out K cl W G s σ H (f s) fun r G' s' H' => ∀ v, RRel K H G' s' σ H' v r → Q v H') : tD K cl W f σ H Q := ⟨G, s, S, h⟩
/-- the wish with an older start -/
theorem out_less {f : Res R} {H0 : Hp} {Q : VK} (dm : ∀ a, H0 a ≠ none → H a ≠ none) (h : Out K cl W G s σ H f fun r G' s' H' => ∀ v, RRel K H0 G' s' σ H' v r → Q v H') :
    Out K cl W G s σ H f fun r G' s' H' => ∀ v, RRel K H G' s' σ H' v r → Q v H' := out_mono h fun _ _ _ _ _ _ k v q => k v (q.less dm)
end
section
variable {X : Cx} {cl : String → Addr} {W : WX}
theorem pe_imp {e : Expr} {t t' : TE} (h : PE X e t) (i : ∀ σ H Q, t' σ H Q → t σ H Q) : PE X e t' := ⟨fun pins s σ H Q I q => h.run pins s σ H Q I (i σ H Q q)⟩
theorem pt_imp {e : Expr} {t t' : TT} (h : PT X e t) (i : ∀ σ H Q, t' σ H Q → t σ H Q) : PT X e t' := ⟨fun pins s σ H Q I q => h.run pins s σ H Q I (i σ H Q q)⟩
theorem pw_imp {e : Expr} {t t' : TT} (h : PW X e t) (i : ∀ σ H Q, t' σ H Q → t σ H Q) : PW X e t' := ⟨fun wh pins s σ H Q I q => h.run wh pins s σ H Q I (i σ H Q q)⟩
theorem pa_imp {es : List Expr} {t t' : TA} (h : PA X es t) (i : ∀ σ H Q, t' σ H Q → t σ H Q) : PA X es t' := ⟨fun pos pins s σ H Q I q => h.run pos pins s σ H Q I (i σ H Q q)⟩
theorem ps_imp {st : Stmt} {t t' : TS} (h : PS X st t) (i : ∀ D σ H, t' D σ H → t D σ H) : PS X st t' := ⟨fun pins s σ H D I q => h.run pins s σ H D I (i D σ H q)⟩
theorem pss_imp {st : List Stmt} {t t' : TS} (h : PSs X st t) (i : ∀ D σ H, t' D σ H → t D σ H) : PSs X st t' := ⟨fun pins s σ H D I q => h.run pins s σ H D I (i D σ H q)⟩
abbrev DE (X : Cx) (cl : String → Addr) (W : WX) (e : Expr) (f : M R) : Prop := PE X e (tD X.K cl W f)
abbrev DT (X : Cx) (cl : String → Addr) (W : WX) (e : Expr) (f : M Bool) : Prop := PT X e (tT X.K cl W f)
abbrev DW (X : Cx) (cl : String → Addr) (W : WX) (e : Expr) (f : M Bool) : Prop := PW X e (tT X.K cl W f)
abbrev DA (X : Cx) (cl : String → Addr) (W : WX) (es : List Expr) (f : M (List R)) : Prop := PA X es (tA X.K cl W f)
abbrev DS (X : Cx) (cl : String → Addr) (W : WX) (st : Stmt) (f : DSt → Flow) : Prop := PS X st (tS X.K cl W f)
abbrev DSs (X : Cx) (cl : String → Addr) (W : WX) (st : List Stmt) (f : DSt → Flow) : Prop := PSs X st (tS X.K cl W f)

/-! ### names, constants -/
def fVar (i : Nat) : M R := fun s => match s.d[i]? with
  | some (.val d) => .ok (.val d) s
  | some (.raw v) => .ok (.raw v) s
  | some (.ob o) => .ok (.ob o) s
  | some (.own _) => .ok (.slot i) s
  | _ => .stuck
theorem d_var (i : Nat) {x : Str} {pos : Pos} (hN : X.N[i]? = some x := by rfl) (hv : Vis X.env.scope x := by first | exact Or.inl rfl | exact Or.inr (Or.inl rfl) | exact Or.inr (Or.inr rfl)) (hd : (x == ("__debug__" : Str)) = false := by decide)
    (hcd : (x == ("__classdict__" : Str)) = false := by decide) : DE X cl W (.Name x pos) (fVar i) := by
  refine pe_imp (pe_var hN hv hd hcd) fun σ H Q ⟨G, s, S, h⟩ => ?_
  unfold fVar at h
  split at h
  · rename_i d q
    obtain ⟨v, e, hd⟩ := S.slot i _ q
    have e' : σ[i]? = some (some v) := by
      cases z : σ[i]? with
      | none => rw [z] at e; cases e
      | some o => rw [z] at e; simp at e; rw [e]
    exact ⟨v, e', h G H Stp.refl S v hd⟩
  · rename_i u q
    have e : σ[i]?.join = some u := S.slot i _ q
    have e' : σ[i]? = some (some u) := by
      cases z : σ[i]? with
      | none => rw [z] at e; cases e
      | some o => rw [z] at e; simp at e; rw [e]
    exact ⟨u, e', h G H Stp.refl S u rfl⟩
  · rename_i o q
    obtain ⟨v, e, hd⟩ := S.slot i _ q
    have e' : σ[i]? = some (some v) := by
      cases z : σ[i]? with
      | none => rw [z] at e; cases e
      | some o => rw [z] at e; simp at e; rw [e]
    exact ⟨v, e', h G H Stp.refl S v hd⟩
  · rename_i ds q
    obtain ⟨a, xs, e, ha, hd⟩ := S.slot i _ q
    have e' : σ[i]? = some (some (.ref a)) := by
      cases z : σ[i]? with
      | none => rw [z] at e; cases e
      | some o => rw [z] at e; simp at e; rw [e]
    exact ⟨_, e', h G H Stp.refl S _ e'⟩
  · exact h.elim
def fC (d : PyData) : M R := ret (.val d)
theorem d_c {e : Expr} {d : PyData} {v : V} (hd : ∀ G, Rp X.K G v d) (h : PE X e (tC v)) : DE X cl W e (fC d) :=
  pe_imp h fun σ H Q ⟨G, s, S, q⟩ => q G H Stp.refl S v (hd G)
theorem d_int {i j pos} : DE X cl W (.Constant (.int i) j pos) (fC (.int i)) := d_c (fun _ => .int i) pe_int
theorem d_bl {b j pos} : DE X cl W (.Constant (.bool b) j pos) (fC (.bool b)) := d_c (fun _ => .bl b) pe_bl
theorem d_non {j pos} : DE X cl W (.Constant .none j pos) (fC .none) := d_c (fun _ => .non) pe_non
theorem d_str {x j pos} : DE X cl W (.Constant (.str x) j pos) (fC (.str x)) := d_c (fun _ => .str x) pe_str
theorem d_globI {x : Str} {i : Int} {t : Tok} {pos : Pos} (hg : Gl X x) (hm : X.mg x = some (.int i t)) (hd : (x == ("__debug__" : Str)) = false := by decide) : DE X cl W (.Name x pos) (fC (.int i)) := d_c (fun _ => .int i) (pe_glob (v := .int i) hg hm ⟨t, rfl⟩ hd)
theorem d_globS {x : Str} {i : Str} {t : Tok} {pos : Pos} (hg : Gl X x) (hm : X.mg x = some (.str i t)) (hd : (x == ("__debug__" : Str)) = false := by decide) : DE X cl W (.Name x pos) (fC (.str i)) := d_c (fun _ => .str i) (pe_glob (v := .str i) hg hm ⟨t, rfl⟩ hd)
def fRaw (v : V) : M R := ret (.raw v)
theorem d_raw {e : Expr} {v : V} (h : PE X e (tC v)) : DE X cl W e (fRaw v) := pe_imp h fun σ H Q ⟨G, s, S, q⟩ => q G H Stp.refl S v rfl
theorem d_bltn {x : Str} {v : V} {u : Value} {pos : Pos} (hg : Gl X x) (hm : X.mg x = none) (hv : bootBuiltins x = some u) (r : RelV v u) (hn : x ≠ "__name__" := by decide) (hd : (x == ("__debug__" : Str)) = false := by decide) : DE X cl W (.Name x pos) (fRaw v) := d_raw (pe_bltn hg hm hv r hn hd)
theorem d_globR {x : Str} {v : V} {u : Value} {pos : Pos} (hg : Gl X x) (hm : X.mg x = some u) (r : RelV v u) (hd : (x == ("__debug__" : Str)) = false := by decide) : DE X cl W (.Name x pos) (fRaw v) := d_raw (pe_glob hg hm r hd)

/-! ### operators -/
/-- what an operation on results does, by the rule on values -/
def OpS (K : PySem.W.Frag) (rl : R2) (o : R → R → M R) : Prop := ∀ (cl : String → Addr) (W : WX) (G : Hp) (s : DSt) (σ : L2.St) (H H0 : Hp) (v1 v2 : V) (r1 r2 : R) (Q : VK), SA K G s σ H → RRel K H0 G s σ H v1 r1 → RRel K H0 G s σ H v2 r2 →
  (Out K cl W G s σ H (o r1 r2 s) fun r G' s' H' => ∀ v, RRel K H G' s' σ H' v r → Q v H') → rl v1 v2 H Q
def fOp (o : R → R → M R) (f g : M R) : M R := bnd f fun x => bnd g fun y => o x y
theorem d_op2 {e : Expr} {a b : Expr} {f g : M R} {rl : R2} {o : R → R → M R} (h : ∀ {ta tb : TE}, PE X a ta → PE X b tb → PE X e (tOp rl ta tb)) (ho : OpS X.K rl o) (ha : DE X cl W a f) (hb : DE X cl W b g) : DE X cl W e (fOp o f g) := by
  refine pe_imp (h ha hb) fun σ H Q ⟨G, s, S, q⟩ => ?_
  refine ⟨G, s, S, out_mono (out_bind q) fun x G1 s1 H1 st1 S1 q1 v1 r1 => ⟨G1, s1, S1, ?_⟩⟩
  refine out_mono (out_bind q1) fun y G2 s2 H2 st2 S2 q2 v2 r2 => ?_
  refine ho cl W G2 s2 σ H2 H v1 v2 x y Q S2 (r1.mono st2) (r2.less st1.dom) (out_less (st1.trans st2).dom q2)
theorem OpR.or' {f : Value → Value → Sem Value} {r r' : R2} (h : OpR X f r) (h' : OpR X f r') : OpR X f (fun x y H Q => r x y H Q ∨ r' x y H Q) := by
  intro pins s σ H x y v u Q I rx ry q
  rcases q with q | q
  · exact h pins s σ H x y v u Q I rx ry q
  · exact h' pins s σ H x y v u Q I rx ry q
theorem SA.ownH {K : PySem.W.Frag} {G H : Hp} {s : DSt} {σ : L2.St} {a : Addr} (S : SA K G s σ H) (z : Own s σ a) : ∃ xs, H a = some (.lst xs) := by
  rcases z with ⟨i, ⟨es, e⟩, e2⟩ | z
  · obtain ⟨b, xs, e3, ha, _⟩ := S.slot i _ e
    rw [e2] at e3
    cases e3
    exact ⟨xs, ha⟩
  · have q := S.pw
    unfold POwn at z
    unfold PwOk at q
    split at z
    · exact z.elim
    · rename_i pa ca cells t e
      rw [e] at q
      dsimp only at q
      rcases z with rfl | rfl
      · exact ⟨_, q.2.1⟩
      · exact ⟨_, q.2.2.1⟩
/-- a new list -/
theorem new_list {K : PySem.W.Frag} {G H H0 : Hp} {s : DSt} {σ : L2.St} {p : Addr} {vs : List V} {ds : List PyData} (S : SA K G s σ H) (hp : H p = none) (hd : RpAll K G vs ds) (dm : ∀ a, H0 a ≠ none → H a ≠ none) :
    Stp G s σ H G s σ (upd H p (.lst vs)) ∧ SA K G s σ (upd H p (.lst vs)) ∧ RRel K H0 G s σ (upd H p (.lst vs)) (.ref p) (.new ds) := by
  have ne : ∀ a o, H a = some o → a ≠ p := fun a o h => ne_of_none h hp
  have up : ∀ a o, H a = some o → upd H p (.lst vs) a = some o := fun a o h => by rw [upd_ne (ne a o h)]; exact h
  have gp : G p = none := Evl.fresh_back S.gh hp
  refine ⟨⟨Ex.refl G, fun a o h _ => ⟨up a o h, rfl⟩, fun a z => .inl z, fun a h => ?_, fun _ h => h⟩, ⟨S.len, S.gh.trans fun a o h => up a o h, fun i sl h => ?_, S.inj, S.ownG, ?_, S.pne⟩, ⟨p, vs, rfl, upd_same, hd, gp, ?_, ?_⟩⟩
  · obtain ⟨o, e⟩ := Option.ne_none_iff_exists'.mp h
    rw [up a o e]; simp
  · have q := S.slot i sl h
    cases sl with
    | no => trivial
    | val d => exact q
    | raw v => exact q
    | ob o => exact q
    | own es => obtain ⟨a, xs, e, ha, hh⟩ := q; exact ⟨a, xs, e, up a _ ha, hh⟩
  · have q := S.pw
    unfold PwOk at q ⊢
    split
    · trivial
    · rename_i pa ca cells t e
      rw [e] at q
      exact ⟨q.1, up _ _ q.2.1, up _ _ q.2.2.1, q.2.2.2⟩
  · exact Classical.byContradiction fun q => dm p q hp
  · intro z
    obtain ⟨xs, e⟩ := S.ownH z
    rw [hp] at e; cases e
/-- a new object that is known from now on -/
theorem new_known {K : PySem.W.Frag} {G H : Hp} {s : DSt} {σ : L2.St} {p : Addr} (o : HO) (S : SA K G s σ H) (hp : H p = none) :
    Stp G s σ H (upd G p o) s σ (upd H p o) ∧ SA K (upd G p o) s σ (upd H p o) := by
  have up : ∀ a u, H a = some u → upd H p o a = some u := fun a u h => by rw [upd_ne (ne_of_none h hp)]; exact h
  have gp : G p = none := Evl.fresh_back S.gh hp
  have ug : Ex G (upd G p o) := Ex.new gp
  have nown : ∀ a, Own s σ a → a ≠ p := by
    rintro a z rfl
    obtain ⟨xs, e⟩ := S.ownH z
    rw [hp] at e; cases e
  refine ⟨⟨ug, fun a u h _ => ⟨up a u h, by rw [upd_ne (ne_of_none h hp)]⟩, fun a z => .inl z, fun a h => ?_, fun _ h => h⟩, ⟨S.len, fun a u h => ?_, fun i sl h => ?_, S.inj, fun i a z => ?_, ?_, S.pne⟩⟩
  · obtain ⟨u, e⟩ := Option.ne_none_iff_exists'.mp h
    rw [up a u e]; simp
  · by_cases e : a = p
    · subst e; rw [upd_same] at h ⊢; exact h
    · rw [upd_ne e] at h ⊢; exact S.gh a u h
  · have q := S.slot i sl h
    cases sl with
    | no => trivial
    | val d => obtain ⟨v, e, hd⟩ := q; exact ⟨v, e, dp_mono ug _ _ hd⟩
    | raw v => exact q
    | ob o => obtain ⟨v, e, hd⟩ := q; exact ⟨v, e, ob_mono ug hd⟩
    | own es => obtain ⟨a, xs, e, ha, hh⟩ := q; exact ⟨a, xs, e, up a _ ha, dps_mono ug _ _ hh⟩
  · rw [upd_ne (nown a (.inl ⟨i, z⟩))]; exact S.ownG i a z
  · have q := S.pw
    unfold PwOk at q ⊢
    split
    · trivial
    · rename_i pa ca cells t e
      rw [e] at q
      have n1 : pa ≠ p := nown pa (.inr (by rw [e]; exact .inl rfl))
      have n2 : ca ≠ p := nown ca (.inr (by rw [e]; exact .inr rfl))
      exact ⟨q.1, up _ _ q.2.1, up _ _ q.2.2.1, by rw [upd_ne n1]; exact q.2.2.2.1, by rw [upd_ne n2]; exact q.2.2.2.2⟩
end
end DL

/-! DL3: operators on data -/
noncomputable section
namespace DL
open PySem L2 PyProof.Rows
open Evl (Ex)

/-- content as looked at: a list may be one's own, what is in it is known -/
def Dq (K : PySem.W.Frag) (G H : Hp) (v : V) (d : PyData) : Prop := match d with
  | .list ds => ∃ a xs, v = .ref a ∧ H a = some (.lst xs) ∧ RpAll K G xs ds
  | d => Rp K G v d
theorem Dq.of {K : PySem.W.Frag} {G H : Hp} {v : V} : ∀ {d : PyData}, Ex G H → Rp K G v d → Dq K G H v d
  | .list ds, e, h => by cases h with | lst hs ha => exact ⟨_, _, rfl, e _ _ hs, ha⟩
  | .none, _, h | .bool _, _, h | .int _, _, h | .str _, _, h | .tuple _, _, h | .dict _, _, h => h
theorem Dq.rp {K : PySem.W.Frag} {G H : Hp} {v : V} : ∀ {d : PyData}, Ex G H → Dq K G H v d → Rp K H v d
  | .list ds, e, h => by obtain ⟨a, xs, rfl, ha, hd⟩ := h; exact .lst ha (dps_mono e _ _ hd)
  | .none, e, h | .bool _, e, h | .int _, e, h | .str _, e, h | .tuple _, e, h | .dict _, e, h => dp_mono e _ _ h
theorem look_q {K : PySem.W.Frag} {H0 G H : Hp} {s : DSt} {σ : L2.St} {v : V} {r : R} {d : PyData} (S : SA K G s σ H) (h : RRel K H0 G s σ H v r) (e : look r s = some d) : Dq K G H v d := by
  cases r with
  | val d' => cases e; exact .of S.gh h
  | raw u => cases e
  | ob o => cases e
  | new ds =>
    cases e
    obtain ⟨a, xs, rfl, ha, hd, _⟩ := h
    exact ⟨a, xs, rfl, ha, hd⟩
  | slot i =>
    simp only [look] at e
    have h' : σ[i]? = some (some v) := h
    split at e
    · rename_i ds q
      cases e
      obtain ⟨a, xs, e1, ha, hd⟩ := S.slot i _ q
      rw [h'] at e1
      cases e1
      exact ⟨a, xs, rfl, ha, hd⟩
    · rename_i d' q
      cases e
      obtain ⟨u, e1, hd⟩ := S.slot i _ q
      rw [h'] at e1
      cases e1
      exact .of S.gh hd
    · cases e
theorem dq_int {K : PySem.W.Frag} {G H : Hp} {v : V} {i : Int} (h : Dq K G H v (.int i)) : v = .int i := by cases (show Rp K G v (.int i) from h); rfl
theorem dq_bl {K : PySem.W.Frag} {G H : Hp} {v : V} {i : Bool} (h : Dq K G H v (.bool i)) : v = .bl i := by cases (show Rp K G v (.bool i) from h); rfl
theorem dq_str {K : PySem.W.Frag} {G H : Hp} {v : V} {i : Str} (h : Dq K G H v (.str i)) : v = .str i := by cases (show Rp K G v (.str i) from h); rfl
theorem dq_lst {K : PySem.W.Frag} {G H : Hp} {v : V} {ds : List PyData} (h : Dq K G H v (.list ds)) : ∃ a xs, v = .ref a ∧ H a = some (.lst xs) ∧ RpAll K G xs ds := h
theorem dq_tup {K : PySem.W.Frag} {G H : Hp} {v : V} {ds : List PyData} (x : Ex G H) (h : Dq K G H v (.tuple ds)) : ∃ a xs, v = .ref a ∧ SqT K H a xs ∧ RpAll K G xs ds ∧ Rp K G v (.tuple ds) := by
  have h' : Rp K G v (.tuple ds) := h
  cases id h' with
  | tup hs ha => exact ⟨_, _, rfl, Evl.ex_t x hs, ha, h'⟩
/-- what is to be shown of an answer -/
def Ans (K : PySem.W.Frag) (G H : Hp) (r : R) (Q : VK) : Prop := match r with
  | .val d => (∀ v, Rp K G v d → Q v H) ∧ ∀ ds p vs, d = .tuple ds → H p = none → RpAll K G vs ds → Q (.ref p) (upd H p (.tup vs))
  | .new ds => ∀ p vs, H p = none → RpAll K G vs ds → Q (.ref p) (upd H p (.lst vs))
  | .raw v => Q v H
  | .ob o => (∀ v, ObRel K G v o → Q v H) ∧ (∀ kvs p vs, o = .dict kvs → H p = none → KRp K G vs kvs → Q (.ref p) (upd H p (.dK vs))) ∧ ∀ S n p, o = .set S n → H p = none → Q (.ref p) (upd H p (.set S n))
  | .slot _ => False
theorem ans_of {K : PySem.W.Frag} {cl : String → Addr} {W : WX} {G H H0 : Hp} {s : DSt} {σ : L2.St} {r : R} {Q : VK} (S : SA K G s σ H) (dm : ∀ a, H0 a ≠ none → H a ≠ none) (hr : ∀ i, r ≠ .slot i)
    (h : Out K cl W G s σ H (.ok r s) fun r G' s' H' => ∀ v, RRel K H0 G' s' σ H' v r → Q v H') : Ans K G H r Q := by
  cases r with
  | val d =>
    refine ⟨fun v q => h G H Stp.refl S v q, fun ds p vs e hp hd => ?_⟩
    subst e
    obtain ⟨st, sa⟩ := new_known (.tup vs) S hp
    refine h _ _ st sa _ ?_
    exact .tup (.of upd_same) (dps_mono st.ex _ _ hd)
  | new ds =>
    intro p vs hp hd
    obtain ⟨st, sa, rr⟩ := new_list S hp hd dm
    exact h _ _ st sa _ rr
  | raw v => exact h G H Stp.refl S v rfl
  | ob o =>
    refine ⟨fun v q => h G H Stp.refl S v q, fun kvs p vs e hp hd => ?_, fun S' n p e hp => ?_⟩
    · subst e
      obtain ⟨st, sa⟩ := new_known (.dK vs) S hp
      exact h _ _ st sa _ ⟨p, vs, rfl, upd_same, krp_mono st.ex hd⟩
    · subst e
      obtain ⟨st, sa⟩ := new_known (.set S' n) S hp
      exact h _ _ st sa _ ⟨p, rfl, upd_same⟩
  | slot i => exact (hr i rfl).elim
def lift1 (o : PyData → Option R) : R → M R := fun x s => match look x s with
  | some d => match o d with
    | some (.slot _) => .stuck
    | some r => .ok r s
    | none => .stuck
  | none => .stuck
def lift2 (o : PyData → PyData → Option R) : R → R → M R := fun x y s => match look x s, look y s with
  | some d, some e => match o d e with
    | some (.slot _) => .stuck
    | some r => .ok r s
    | none => .stuck
  | _, _ => .stuck
def OpD (K : PySem.W.Frag) (rl : R2) (o : PyData → PyData → Option R) : Prop := ∀ (G H : Hp) (x y : V) (d e : PyData) (r : R) (Q : VK), Ex G H → Dq K G H x d → Dq K G H y e → o d e = some r → Ans K G H r Q → rl x y H Q
theorem ops_lift {K : PySem.W.Frag} {rl : R2} {o : PyData → PyData → Option R} (h : OpD K rl o) : OpS K rl (lift2 o) := by
  intro cl W G s σ H H0 v1 v2 r1 r2 Q S q1 q2 k
  unfold lift2 at k
  split at k
  · rename_i d e e1 e2
    split at k
    · exact k.elim
    · rename_i r ns ho
      exact h G H v1 v2 d e r Q S.gh (look_q S q1 e1) (look_q S q2 e2) ho (ans_of S (fun a z => z) (fun i z => ns i z) k)
    · exact k.elim
  · exact k.elim

/-! ### sums, products .. -/
def addO : PyData → PyData → Option R
  | .int i, .int j => some (.val (.int (i + j)))
  | .list a, .list b => if leS (a.length + b.length) then some (.new (a ++ b)) else none
  | .str a, .str b => if leS (a.length + b.length) then some (.val (.str (a ++ b))) else none
  | .tuple a, .tuple b => if leS (a.length + b.length) then some (.val (.tuple (a ++ b))) else none
  | _, _ => none
def rAddA (K : PySem.W.Frag) : R2 := fun x y H Q => rI0 (fun i j => .int (i + j)) x y H Q ∨ (rCat x y H Q ∨ ((∃ i j, x = .str i ∧ y = .str j ∧ i.length + j.length ≤ sizeLine ∧ Q (.str (i ++ j)) H) ∨ rCatA K x y H Q))
theorem opd_add {K : PySem.W.Frag} : OpD K (rAddA K) addO := by
  intro G H x y d e r Q ex hx hy ho k
  unfold addO at ho
  split at ho
  · cases ho
    obtain rfl := dq_int hx
    obtain rfl := dq_int hy
    exact .inl ⟨_, _, rfl, rfl, k.1 _ (.int _)⟩
  · split at ho
    · cases ho
      rename_i a b hl
      obtain ⟨p, xs, rfl, hp, hpx⟩ := dq_lst hx
      obtain ⟨q, ys, rfl, hq, hqx⟩ := dq_lst hy
      exact .inr (.inl ⟨p, q, xs, ys, rfl, rfl, hp, hq, by rw [dps_len hpx, dps_len hqx]; exact hl, fun l hl => k l _ hl (dps_app hpx hqx)⟩)
    · cases ho
  · split at ho
    · cases ho
      obtain rfl := dq_str hx
      obtain rfl := dq_str hy
      exact .inr (.inr (.inl ⟨_, _, rfl, rfl, by assumption, k.1 _ (.str _)⟩))
    · cases ho
  · split at ho
    · cases ho
      rename_i a b hl
      obtain ⟨p, xs, rfl, hp, hpx, h1⟩ := dq_tup ex hx
      obtain ⟨q, ys, rfl, hq, hqx, h2⟩ := dq_tup ex hy
      refine .inr (.inr (.inr ⟨p, q, xs, ys, rfl, rfl, hp, hq, by rw [dps_len hpx, dps_len hqx]; exact hl, fun z => ?_, fun _ z => ?_, fun _ _ l hl => k.2 _ l _ rfl hl (dps_app hpx hqx)⟩))
      · subst z
        cases hpx
        exact k.1 _ h2
      · subst z
        cases hqx
        simp only [List.append_nil] at k
        exact k.1 _ h1
    · cases ho
  · cases ho
def subO : PyData → PyData → Option R
  | .int i, .int j => some (.val (.int (i - j)))
  | _, _ => none
theorem opd_sub {K : PySem.W.Frag} : OpD K (rI0 fun i j => .int (i - j)) subO := by
  intro G H x y d e r Q ex hx hy ho k
  unfold subO at ho
  split at ho
  · cases ho
    obtain rfl := dq_int hx
    obtain rfl := dq_int hy
    exact ⟨_, _, rfl, rfl, k.1 _ (.int _)⟩
  · cases ho
def mulO : PyData → PyData → Option R
  | .int i, .int j => if lgM i j then some (.val (.int (i * j))) else none
  | .list a, .int k => if inW k ∧ leS (a.length * k.toNat) then some (.new (List.replicate k.toNat a).flatten) else none
  | _, _ => none
theorem dps_rep {K : PySem.W.Frag} {H : Hp} {ds : List PyData} {vs : List V} (h : RpAll K H vs ds) : ∀ n, RpAll K H (List.replicate n vs).flatten (List.replicate n ds).flatten
  | 0 => .nil
  | n + 1 => by
    rw [List.replicate_succ, List.replicate_succ, List.flatten_cons, List.flatten_cons]
    exact dps_app h (dps_rep h n)
def rMulA : R2 := fun x y H Q => rI CMulW (fun i j => .int (i * j)) x y H Q ∨ rRep x y H Q
theorem opd_mul {K : PySem.W.Frag} : OpD K rMulA mulO := by
  intro G H x y d e r Q ex hx hy ho k
  unfold mulO at ho
  split at ho
  · split at ho
    · cases ho
      obtain rfl := dq_int hx
      obtain rfl := dq_int hy
      exact .inl ⟨_, _, rfl, rfl, by assumption, k.1 _ (.int _)⟩
    · cases ho
  · split at ho
    · cases ho
      rename_i a n hl
      obtain ⟨p, xs, rfl, hp, hpx⟩ := dq_lst hx
      obtain rfl := dq_int hy
      exact .inr ⟨p, n, xs, rfl, rfl, hp, hl.1.1, hl.1.2, by rw [dps_len hpx]; exact hl.2, fun l hl => k l _ hl (dps_rep hpx _)⟩
    · cases ho
  · cases ho
def fdivO : PyData → PyData → Option R
  | .int i, .int j => if 0 < j ∧ lgD j then some (.val (.int (i / j))) else none
  | _, _ => none
theorem opd_fdiv {K : PySem.W.Frag} : OpD K (rI CDivW fun i j => .int (i / j)) fdivO := by
  intro G H x y d e r Q ex hx hy ho k
  unfold fdivO at ho
  split at ho
  · split at ho
    · cases ho
      obtain rfl := dq_int hx
      obtain rfl := dq_int hy
      exact ⟨_, _, rfl, rfl, by assumption, k.1 _ (.int _)⟩
    · cases ho
  · cases ho
def modO : PyData → PyData → Option R
  | .int i, .int j => if 0 < j then some (.val (.int (i % j))) else none
  | _, _ => none
theorem opd_mod {K : PySem.W.Frag} : OpD K (rI (fun _ j => 0 < j) fun i j => .int (i % j)) modO := by
  intro G H x y d e r Q ex hx hy ho k
  unfold modO at ho
  split at ho
  · split at ho
    · cases ho
      obtain rfl := dq_int hx
      obtain rfl := dq_int hy
      exact ⟨_, _, rfl, rfl, by assumption, k.1 _ (.int _)⟩
    · cases ho
  · cases ho
def powO : PyData → PyData → Option R
  | .int i, .int j => if 0 ≤ j ∧ leP j ∧ lgP i then some (.val (.int (i ^ j.toNat))) else none
  | _, _ => none
def CPowW (i j : Int) : Prop := 0 ≤ j ∧ j ≤ 30000 ∧ i.natAbs.log2 < 4000
theorem bits_log (i : Int) : Builtin.Int.intBits i ≤ i.natAbs.log2 + 1 := by
  unfold Builtin.Int.intBits
  split <;> omega
theorem op_powW {X : Cx} : OpR X (binaryOp .Pow) (rI CPowW fun i j => .int (i ^ j.toNat)) := by
  intro pins s σ H x y v u Q I r1 r2 h
  obtain ⟨i, j, rfl, rfl, hc, q⟩ := h
  obtain ⟨t, rfl⟩ := r1
  obtain ⟨t', rfl⟩ := r2
  refine pow_int hc.1 ?_ ⟨.int _, H, I.tok _, ⟨_, rfl⟩, q⟩
  have h1 := bits_log i
  have h2 : (Builtin.Int.intBits i : Int) ≤ 4000 := by have := hc.2.2; omega
  have h3 : (Builtin.Int.intBits i : Int) * j ≤ 4000 * 30000 := Int.mul_le_mul h2 hc.2.1 hc.1 (by decide)
  have : (4000 * 30000 : Int) ≤ 2 ^ 27 := by decide
  omega
theorem opd_pow {K : PySem.W.Frag} : OpD K (rI CPowW fun i j => .int (i ^ j.toNat)) powO := by
  intro G H x y d e r Q ex hx hy ho k
  unfold powO at ho
  split at ho
  · split at ho
    · cases ho
      obtain rfl := dq_int hx
      obtain rfl := dq_int hy
      exact ⟨_, _, rfl, rfl, by assumption, k.1 _ (.int _)⟩
    · cases ho
  · cases ho

/-! ### comparisons -/
def ltO : PyData → PyData → Option R
  | .int i, .int j => some (.val (.bool (decide (i < j))))
  | _, _ => none
def leO : PyData → PyData → Option R
  | .int i, .int j => some (.val (.bool (decide (i ≤ j))))
  | _, _ => none
def gtO : PyData → PyData → Option R
  | .int i, .int j => some (.val (.bool (decide (j < i))))
  | _, _ => none
def geO : PyData → PyData → Option R
  | .int i, .int j => some (.val (.bool (decide (j ≤ i))))
  | _, _ => none
theorem opd_cmpI {K : PySem.W.Frag} {p : Int → Int → Bool} {o : PyData → PyData → Option R} (h1 : ∀ i j, o (.int i) (.int j) = some (.val (.bool (p i j)))) (h2 : ∀ d e r, o d e = some r → ∃ i j, d = .int i ∧ e = .int j) :
    OpD K (rI0 fun i j => .bl (p i j)) o := by
  intro G H x y d e r Q ex hx hy ho k
  obtain ⟨i, j, rfl, rfl⟩ := h2 d e r ho
  rw [h1] at ho
  cases ho
  obtain rfl := dq_int hx
  obtain rfl := dq_int hy
  exact ⟨_, _, rfl, rfl, k.1 _ (.bl _)⟩
theorem opd_lt {K : PySem.W.Frag} : OpD K (rI0 fun i j => .bl (decide (i < j))) ltO := opd_cmpI (fun _ _ => rfl) fun d e r h => by unfold ltO at h; split at h <;> simp_all
theorem opd_le {K : PySem.W.Frag} : OpD K (rI0 fun i j => .bl (decide (i ≤ j))) leO := opd_cmpI (fun _ _ => rfl) fun d e r h => by unfold leO at h; split at h <;> simp_all
theorem opd_gt {K : PySem.W.Frag} : OpD K (rI0 fun i j => .bl (decide (j < i))) gtO := opd_cmpI (fun _ _ => rfl) fun d e r h => by unfold gtO at h; split at h <;> simp_all
theorem opd_ge {K : PySem.W.Frag} : OpD K (rI0 fun i j => .bl (decide (j ≤ i))) geO := opd_cmpI (fun _ _ => rfl) fun d e r h => by unfold geO at h; split at h <;> simp_all
def rEqP (K : PySem.W.Frag) (neg : Bool) : R2 := fun x y H Q => ∃ d e, Dp K H x d ∧ Dp K H y e ∧ d.plain = true ∧ e.plain = true ∧ min d.depth e.depth ≤ 60 ∧ Q (.bl (if neg then !PyData.eqv d e else PyData.eqv d e)) H
section
variable {X : Cx}
theorem op_eqP (hu : X.A.units + 64 < cLine) : OpR X (compareOp .Eq) (rEqP X.K false) := by
  intro pins s σ H x y v u Q I rx ry h
  obtain ⟨d, e, hd, he, sd, se, dm, q⟩ := h
  obtain ⟨as, r1⟩ := Dp.reads I d x v hd rx
  obtain ⟨bs, r2⟩ := Dp.reads I e y u he ry
  exact SeqAt.eq_plain r1 r2 sd se (by omega) ⟨.bl _, H, I, rfl, q⟩
theorem op_neP (hu : X.A.units + 64 < cLine) : OpR X (compareOp .NotEq) (rEqP X.K true) := by
  intro pins s σ H x y v u Q I rx ry h
  obtain ⟨d, e, hd, he, sd, se, dm, q⟩ := h
  obtain ⟨as, r1⟩ := Dp.reads I d x v hd rx
  obtain ⟨bs, r2⟩ := Dp.reads I e y u he ry
  exact SeqAt.ne_plain r1 r2 sd se (by omega) ⟨.bl _, H, I, rfl, q⟩
end
def eqO (d e : PyData) : Option R := if min d.depth e.depth ≤ 60 then some (.val (.bool (PyData.eqv d e))) else none
def neO (d e : PyData) : Option R := if min d.depth e.depth ≤ 60 then some (.val (.bool (!PyData.eqv d e))) else none
theorem opd_eq {K : PySem.W.Frag} : OpD K (rEqP K false) eqO := by
  intro G H x y d e r Q ex hx hy ho k
  unfold eqO at ho
  split at ho
  · cases ho
    have h1 := hx.rp ex
    have h2 := hy.rp ex
    exact ⟨d, e, rp_dp _ _ h1, rp_dp _ _ h2, rp_plain _ _ h1, rp_plain _ _ h2, by assumption, k.1 _ (.bl _)⟩
  · cases ho
theorem opd_ne {K : PySem.W.Frag} : OpD K (rEqP K true) neO := by
  intro G H x y d e r Q ex hx hy ho k
  unfold neO at ho
  split at ho
  · cases ho
    have h1 := hx.rp ex
    have h2 := hy.rp ex
    exact ⟨d, e, rp_dp _ _ h1, rp_dp _ _ h2, rp_plain _ _ h1, rp_plain _ _ h2, by assumption, k.1 _ (.bl _)⟩
  · cases ho
def rInP (K : PySem.W.Frag) (neg : Bool) : R2 := fun x y H Q => ∃ d ds, Dp K H x d ∧ (Dp K H y (.list ds) ∨ Dp K H y (.tuple ds)) ∧ d.plain = true ∧ PyData.plainAll ds = true ∧ min (PyData.depthAll ds) d.depth ≤ 60 ∧
  Q (.bl (if neg then !ds.any fun z => PyData.eqv z d else ds.any fun z => PyData.eqv z d)) H
section
variable {X : Cx}
theorem op_inP (hu : X.A.units + 64 < cLine) : OpR X (compareOp .In) (rInP X.K false) := by
  intro pins s σ H x y v u Q I rx ry h
  obtain ⟨d, ds, hd, he, sd, se, dm, q⟩ := h
  obtain ⟨as, r1⟩ := Dp.reads I d x v hd rx
  rcases he with he | he
  · obtain ⟨bs, r2⟩ := Dp.reads I _ y u he ry
    exact SeqAt.in_list_data r2 r1 se sd (by omega) ⟨.bl _, H, I, rfl, q⟩
  · obtain ⟨bs, r2⟩ := Dp.reads I _ y u he ry
    exact SeqAt.in_tuple_data r2 r1 se sd (by omega) ⟨.bl _, H, I, rfl, q⟩
theorem op_notInP (hu : X.A.units + 64 < cLine) : OpR X (compareOp .NotIn) (rInP X.K true) := by
  intro pins s σ H x y v u Q I rx ry h
  obtain ⟨d, ds, hd, he, sd, se, dm, q⟩ := h
  obtain ⟨as, r1⟩ := Dp.reads I d x v hd rx
  rcases he with he | he
  · obtain ⟨bs, r2⟩ := Dp.reads I _ y u he ry
    exact SeqAt.notIn_list_data r2 r1 se sd (by omega) ⟨.bl _, H, I, rfl, q⟩
  · obtain ⟨bs, r2⟩ := Dp.reads I _ y u he ry
    exact SeqAt.notIn_tuple_data r2 r1 se sd (by omega) ⟨.bl _, H, I, rfl, q⟩
end
def items : PyData → Option (List PyData)
  | .list ds => some ds
  | .tuple ds => some ds
  | _ => none
def inO (d e : PyData) : Option R := match items e with
  | some ds => if min (PyData.depthAll ds) d.depth ≤ 60 then some (.val (.bool (ds.any fun z => PyData.eqv z d))) else none
  | none => none
def notInO (d e : PyData) : Option R := match items e with
  | some ds => if min (PyData.depthAll ds) d.depth ≤ 60 then some (.val (.bool (!ds.any fun z => PyData.eqv z d))) else none
  | none => none
theorem items_dp {K : PySem.W.Frag} {H : Hp} {v : V} {e : PyData} {ds : List PyData} (h : Rp K H v e) (q : items e = some ds) : (Dp K H v (.list ds) ∨ Dp K H v (.tuple ds)) ∧ PyData.plainAll ds = true := by
  unfold items at q
  split at q
  · cases q
    refine ⟨.inl (rp_dp _ _ h), ?_⟩
    have := rp_plain _ _ h
    simpa [PyData.plain] using this
  · cases q
    refine ⟨.inr (rp_dp _ _ h), ?_⟩
    have := rp_plain _ _ h
    simpa [PyData.plain] using this
  · cases q
theorem opd_in {K : PySem.W.Frag} : OpD K (rInP K false) inO := by
  intro G H x y d e r Q ex hx hy ho k
  unfold inO at ho
  split at ho
  · rename_i ds hi
    split at ho
    · cases ho
      have h1 := hx.rp ex
      obtain ⟨h2, h3⟩ := items_dp (hy.rp ex) hi
      exact ⟨d, ds, rp_dp _ _ h1, h2, rp_plain _ _ h1, h3, by assumption, k.1 _ (.bl _)⟩
    · cases ho
  · cases ho
theorem opd_notIn {K : PySem.W.Frag} : OpD K (rInP K true) notInO := by
  intro G H x y d e r Q ex hx hy ho k
  unfold notInO at ho
  split at ho
  · rename_i ds hi
    split at ho
    · cases ho
      have h1 := hx.rp ex
      obtain ⟨h2, h3⟩ := items_dp (hy.rp ex) hi
      exact ⟨d, ds, rp_dp _ _ h1, h2, rp_plain _ _ h1, h3, by assumption, k.1 _ (.bl _)⟩
    · cases ho
  · cases ho
/-! ### places -/
def ixO : PyData → PyData → Option R
  | .list ds, .int i => (atI ds i).map .val
  | .tuple ds, .int i => (atI ds i).map .val
  | .str z, .int i => if leS (z.length) then (atI z.cps.toList i).map fun c => .val (.str ⟨#[c]⟩) else none
  | _, _ => none
theorem atI_rp {K : PySem.W.Frag} {G : Hp} {xs : List V} {ds : List PyData} {i : Int} {d : PyData} (h : RpAll K G xs ds) (e : atI ds i = some d) : ∃ v, atI xs i = some v ∧ Rp K G v d := by
  unfold atI at e ⊢
  rw [dps_len h]
  cases q : ixN ds.length i with
  | none => rw [q] at e; cases e
  | some j =>
    rw [q] at e
    have e : ds[j]? = some d := e
    have hj : j < xs.length := by rw [dps_len h]; exact (List.getElem?_eq_some_iff.mp e).1
    obtain ⟨d', e', r⟩ := dps_get h (List.getElem?_eq_getElem hj)
    rw [e] at e'
    cases e'
    exact ⟨xs[j], by simp [hj], r⟩
theorem opd_ix {K : PySem.W.Frag} : OpD K (rIx K) ixO := by
  intro G H x y d e r Q ex hx hy ho k
  unfold ixO at ho
  split at ho
  · rename_i ds i
    cases q : atI ds i with
    | none => rw [q] at ho; cases ho
    | some z =>
      rw [q] at ho
      cases ho
      obtain rfl := dq_int hy
      obtain ⟨p, xs, rfl, hp, hpx⟩ := dq_lst hx
      obtain ⟨v, e1, r1⟩ := atI_rp hpx q
      exact .inl ⟨p, xs, i, v, rfl, rfl, .of hp, e1, k.1 _ r1⟩
  · rename_i ds i
    cases q : atI ds i with
    | none => rw [q] at ho; cases ho
    | some z =>
      rw [q] at ho
      cases ho
      obtain rfl := dq_int hy
      obtain ⟨p, xs, rfl, hp, hpx, _⟩ := dq_tup ex hx
      obtain ⟨v, e1, r1⟩ := atI_rp hpx q
      exact .inr (.inl ⟨p, xs, i, v, rfl, rfl, hp, e1, k.1 _ r1⟩)
  · rename_i z i
    split at ho
    · cases q : atI z.cps.toList i with
      | none => rw [q] at ho; cases ho
      | some c =>
        rw [q] at ho
        cases ho
        obtain rfl := dq_int hy
        obtain rfl := dq_str hx
        exact .inr (.inr ⟨z, i, c, rfl, rfl, by assumption, q, k.1 _ (.str _)⟩)
    · cases ho
  · cases ho
section
variable {X : Cx} {cl : String → Addr} {W : WX} {a b : Expr} {f g : M R} {pos : Pos}
theorem d_add (ha : DE X cl W a f) (hb : DE X cl W b g) : DE X cl W (.BinOp a .Add b pos) (fOp (lift2 addO) f g) := d_op2 (pe_op (OpR.or' op_add (OpR.or' op_cat (OpR.or' op_add_str op_catA)))) (ops_lift opd_add) ha hb
theorem d_sub (ha : DE X cl W a f) (hb : DE X cl W b g) : DE X cl W (.BinOp a .Sub b pos) (fOp (lift2 subO) f g) := d_op2 (pe_op op_sub) (ops_lift opd_sub) ha hb
theorem d_mul (ha : DE X cl W a f) (hb : DE X cl W b g) : DE X cl W (.BinOp a .Mult b pos) (fOp (lift2 mulO) f g) := d_op2 (pe_op (OpR.or' op_mulW op_rep)) (ops_lift opd_mul) ha hb
theorem d_fdiv (ha : DE X cl W a f) (hb : DE X cl W b g) : DE X cl W (.BinOp a .FloorDiv b pos) (fOp (lift2 fdivO) f g) := d_op2 (pe_op op_fdivW) (ops_lift opd_fdiv) ha hb
theorem d_mod (ha : DE X cl W a f) (hb : DE X cl W b g) : DE X cl W (.BinOp a .Mod b pos) (fOp (lift2 modO) f g) := d_op2 (pe_op op_mod) (ops_lift opd_mod) ha hb
theorem d_pow (ha : DE X cl W a f) (hb : DE X cl W b g) : DE X cl W (.BinOp a .Pow b pos) (fOp (lift2 powO) f g) := d_op2 (pe_op op_powW) (ops_lift opd_pow) ha hb
theorem d_lt (ha : DE X cl W a f) (hb : DE X cl W b g) : DE X cl W (.Compare a [.Lt] [b] pos) (fOp (lift2 ltO) f g) := d_op2 (fun h1 h2 => pe_cmpR op_lt h1 h2 (nomark _)) (ops_lift opd_lt) ha hb
theorem d_le (ha : DE X cl W a f) (hb : DE X cl W b g) : DE X cl W (.Compare a [.LtE] [b] pos) (fOp (lift2 leO) f g) := d_op2 (fun h1 h2 => pe_cmpR op_le h1 h2 (nomark _)) (ops_lift opd_le) ha hb
theorem d_gt (ha : DE X cl W a f) (hb : DE X cl W b g) : DE X cl W (.Compare a [.Gt] [b] pos) (fOp (lift2 gtO) f g) := d_op2 (fun h1 h2 => pe_cmpR op_gt h1 h2 (nomark _)) (ops_lift opd_gt) ha hb
theorem d_ge (ha : DE X cl W a f) (hb : DE X cl W b g) : DE X cl W (.Compare a [.GtE] [b] pos) (fOp (lift2 geO) f g) := d_op2 (fun h1 h2 => pe_cmpR op_ge h1 h2 (nomark _)) (ops_lift opd_ge) ha hb
theorem d_eq (hu : X.A.units + 64 < cLine) (ha : DE X cl W a f) (hb : DE X cl W b g) : DE X cl W (.Compare a [.Eq] [b] pos) (fOp (lift2 eqO) f g) := d_op2 (fun h1 h2 => pe_cmpR (op_eqP hu) h1 h2 (nomark _)) (ops_lift opd_eq) ha hb
theorem d_ne (hu : X.A.units + 64 < cLine) (ha : DE X cl W a f) (hb : DE X cl W b g) : DE X cl W (.Compare a [.NotEq] [b] pos) (fOp (lift2 neO) f g) := d_op2 (fun h1 h2 => pe_cmpR (op_neP hu) h1 h2 (nomark _)) (ops_lift opd_ne) ha hb
theorem d_in (hu : X.A.units + 64 < cLine) (hm : behindInMarks .In b = false) (ha : DE X cl W a f) (hb : DE X cl W b g) : DE X cl W (.Compare a [.In] [b] pos) (fOp (lift2 inO) f g) := d_op2 (fun h1 h2 => pe_cmpR (op_inP hu) h1 h2 hm) (ops_lift opd_in) ha hb
theorem d_notIn (hu : X.A.units + 64 < cLine) (hm : behindInMarks .NotIn b = false) (ha : DE X cl W a f) (hb : DE X cl W b g) : DE X cl W (.Compare a [.NotIn] [b] pos) (fOp (lift2 notInO) f g) := d_op2 (fun h1 h2 => pe_cmpR (op_notInP hu) h1 h2 hm) (ops_lift opd_notIn) ha hb
theorem d_ix (ha : DE X cl W a f) (hb : DE X cl W b g) (hs : PlainIx b) : DE X cl W (.Subscript a b pos) (fOp (lift2 ixO) f g) := d_op2 (fun h1 h2 => pe_ix ix_seq h1 h2 hs) (ops_lift opd_ix) ha hb
end
end DL

/-! DL4: tests, argument lists, displays, statements -/
noncomputable section
namespace DL
open PySem L2 PyProof.Rows
open Evl (Ex)

/-! ### tests -/
def fB (f : M R) : M Bool := bnd f fun r s => match look r s with
  | some (.bool b) => .ok b s
  | _ => .stuck
section
variable {X : Cx} {cl : String → Addr} {W : WX}
theorem test_of {K : PySem.W.Frag} {f : M R} {σ : L2.St} {H : Hp} {Q : Bool → Hp → Prop} (h : tT K cl W (fB f) σ H Q) : tD K cl W f σ H fun x H1 => ∃ k, x = .bl k ∧ Q k H1 := by
  obtain ⟨G, s, S, q⟩ := h
  refine ⟨G, s, S, out_mono (out_bind q) fun r G1 s1 H1 st S1 q1 v rr => ?_⟩
  split at q1
  · rename_i b e
    obtain rfl := dq_bl (look_q S1 rr e)
    exact ⟨b, rfl, q1 G1 H1 Stp.refl S1⟩
  · exact q1.elim
theorem d_tval {e : Expr} {f : M R} (h : DE X cl W e f) (he : ∀ whole, isTrue e X.env whole = (do let v ← whole; standAt e.pos; holding [v] (truthy v)) := by intro _; rfl) : DT X cl W e (fB f) :=
  pt_imp (pt_val h he) fun σ H Q q => test_of q
/-- a comparison as a test -/
theorem d_opT {e a b : Expr} {f g : M R} {rl : R2} {o : R → R → M R} (h : ∀ {ta tb : TE}, PE X a ta → PE X b tb → PT X e (tTest (tOp rl ta tb))) (ho : OpS X.K rl o) (ha : DE X cl W a f) (hb : DE X cl W b g) : DT X cl W e (fB (fOp o f g)) := by
  refine pt_imp (h ha hb) fun σ H Q q => ?_
  obtain ⟨G, s, S, q⟩ := test_of q
  refine ⟨G, s, S, out_mono (out_bind q) fun x G1 s1 H1 st1 S1 q1 v1 r1 => ⟨G1, s1, S1, ?_⟩⟩
  refine out_mono (out_bind q1) fun y G2 s2 H2 st2 S2 q2 v2 r2 => ?_
  exact ho cl W G2 s2 σ H2 H v1 v2 x y _ S2 (r1.mono st2) (r2.less st1.dom) (out_less (st1.trans st2).dom q2)
def fAnd (f g : M Bool) : M Bool := bnd f fun b => if b then g else ret false
def fOr (f g : M Bool) : M Bool := bnd f fun b => if b then ret true else g
def fNot (f : M Bool) : M Bool := bnd f fun b => ret (!b)
theorem tand_of {K : PySem.W.Frag} {f g : M Bool} {σ : L2.St} {H : Hp} {Q : Bool → Hp → Prop} (h : tT K cl W (fAnd f g) σ H Q) : tAnd (tT K cl W f) (tT K cl W g) σ H Q := by
  obtain ⟨G, s, S, q⟩ := h
  refine ⟨G, s, S, out_mono (out_bind q) fun b G1 s1 H1 st S1 q1 => ?_⟩
  cases b with
  | true => exact ⟨G1, s1, S1, q1⟩
  | false => exact q1 G1 H1 Stp.refl S1
theorem tor_of {K : PySem.W.Frag} {f g : M Bool} {σ : L2.St} {H : Hp} {Q : Bool → Hp → Prop} (h : tT K cl W (fOr f g) σ H Q) : tOr (tT K cl W f) (tT K cl W g) σ H Q := by
  obtain ⟨G, s, S, q⟩ := h
  refine ⟨G, s, S, out_mono (out_bind q) fun b G1 s1 H1 st S1 q1 => ?_⟩
  cases b with
  | true => exact q1 G1 H1 Stp.refl S1
  | false => exact ⟨G1, s1, S1, q1⟩
theorem d_tnot {a : Expr} {f : M Bool} {pos : Pos} (ha : DT X cl W a f) : DT X cl W (.UnaryOp .Not a pos) (fNot f) := pt_imp (pt_not ha) fun σ H Q ⟨G, s, S, q⟩ =>
  ⟨G, s, S, out_mono (out_bind q) fun b G1 s1 H1 st S1 q1 => q1 G1 H1 Stp.refl S1⟩
theorem w_and1 {a : Expr} {f : M Bool} {pos : Pos} (ha : DT X cl W a f) : DW X cl W (.BoolOp .And [a] pos) f := pw_and1 ha
theorem w_or1 {a : Expr} {f : M Bool} {pos : Pos} (ha : DT X cl W a f) : DW X cl W (.BoolOp .Or [a] pos) f := pw_or1 ha
theorem w_and {a b : Expr} {rest : List Expr} {f g : M Bool} {pos : Pos} (ha : DT X cl W a f) (hb : DW X cl W (.BoolOp .And (b :: rest) pos) g) : DW X cl W (.BoolOp .And (a :: b :: rest) pos) (fAnd f g) := pw_imp (pw_and ha hb) fun σ H Q q => tand_of q
theorem w_or {a b : Expr} {rest : List Expr} {f g : M Bool} {pos : Pos} (ha : DT X cl W a f) (hb : DW X cl W (.BoolOp .Or (b :: rest) pos) g) : DW X cl W (.BoolOp .Or (a :: b :: rest) pos) (fOr f g) := pw_imp (pw_or ha hb) fun σ H Q q => tor_of q
theorem d_tw {e : Expr} {f : M Bool} (h : DW X cl W e f) : DT X cl W e f := PW.pt h
/-- and, or, not as values -/
def fV (f : M Bool) : M R := bnd f fun b => ret (.val (.bool b))
def fAndV (f g : M R) : M R := bnd (fB f) fun b => if b then g else ret (.val (.bool false))
def fOrV (f g : M R) : M R := bnd (fB f) fun b => if b then ret (.val (.bool true)) else g
theorem v_one {op} {a : Expr} {f : M R} {pos : Pos} (h : DE X cl W a f) : DE X cl W (.BoolOp op [a] pos) f := pe_one h
theorem v_and {a b : Expr} {rest : List Expr} {f g : M R} {pos : Pos} (ha : DE X cl W a f) (hb : DE X cl W (.BoolOp .And (b :: rest) pos) g) : DE X cl W (.BoolOp .And (a :: b :: rest) pos) (fAndV f g) := by
  refine pe_imp (pe_and ha hb) fun σ H Q q => ?_
  obtain ⟨G, s, S, q⟩ := q
  have q2 : tT X.K cl W (fB f) σ H fun b H1 => if b = true then tD X.K cl W g σ H1 Q else Q (.bl false) H1 := by
    refine ⟨G, s, S, out_mono (out_bind q) fun b G1 s1 H1 st S1 k => ?_⟩
    cases b with
    | true => exact ⟨G1, s1, S1, out_less st.dom k⟩
    | false => exact k G1 H1 Stp.refl S1 _ (.bl false)
  exact test_of q2
theorem v_or {a b : Expr} {rest : List Expr} {f g : M R} {pos : Pos} (ha : DE X cl W a f) (hb : DE X cl W (.BoolOp .Or (b :: rest) pos) g) : DE X cl W (.BoolOp .Or (a :: b :: rest) pos) (fOrV f g) := by
  refine pe_imp (pe_or ha hb) fun σ H Q q => ?_
  obtain ⟨G, s, S, q⟩ := q
  have q2 : tT X.K cl W (fB f) σ H fun b H1 => if b = true then Q (.bl true) H1 else tD X.K cl W g σ H1 Q := by
    refine ⟨G, s, S, out_mono (out_bind q) fun b G1 s1 H1 st S1 k => ?_⟩
    cases b with
    | true => exact k G1 H1 Stp.refl S1 _ (.bl true)
    | false => exact ⟨G1, s1, S1, out_less st.dom k⟩
  exact test_of q2
theorem v_not {a : Expr} {f : M R} {pos : Pos} (ha : DE X cl W a f) : DE X cl W (.UnaryOp .Not a pos) (fV (fNot (fB f))) := by
  refine pe_imp (pe_not ha) fun σ H Q q => ?_
  obtain ⟨G, s, S, q⟩ := q
  have q2 : tT X.K cl W (fB f) σ H fun b H1 => Q (.bl (!b)) H1 := by
    refine ⟨G, s, S, out_mono (out_bind (out_bind q)) fun b G1 s1 H1 st S1 k => ?_⟩
    exact k G1 H1 Stp.refl S1 G1 H1 Stp.refl S1 _ (.bl _)
  exact test_of q2
def fIf (c : M Bool) (f g : M R) : M R := bnd c fun b => if b then f else g
theorem d_ifExp {c a b : Expr} {h : M Bool} {f g : M R} {pos : Pos} (hc : DT X cl W c h) (ha : DE X cl W a f) (hb : DE X cl W b g) : DE X cl W (.IfExp c a b pos) (fIf h f g) := by
  refine pe_imp (pe_ifExp hc ha hb) fun σ H Q ⟨G, s, S, q⟩ => ?_
  refine ⟨G, s, S, out_mono (out_bind q) fun b G1 s1 H1 st S1 k => ?_⟩
  cases b with
  | true => exact ⟨G1, s1, S1, out_less st.dom k⟩
  | false => exact ⟨G1, s1, S1, out_less st.dom k⟩

/-! ### what is handed on: known from then on -/
def AR (K : PySem.W.Frag) (G : Hp) (v : V) : R → Prop
  | .val d => Rp K G v d
  | .raw u => v = u
  | .ob o => ObRel K G v o
  | _ => False
def esc (r : R) (s : DSt) : Option (R × DSt) := match r with
  | .val d => some (.val d, s)
  | .raw v => some (.raw v, s)
  | .ob o => some (.ob o, s)
  | .new ds => some (.val (.list ds), s)
  | .slot i => match s.d[i]? with
    | some (.own ds) => some (.val (.list ds), { s with d := s.d.set i (.val (.list ds)) })
    | some (.val d) => some (.val d, s)
    | _ => none
theorem know {K : PySem.W.Frag} {G H : Hp} {s : DSt} {σ : L2.St} {a : Addr} {xs : List V} {ds : List PyData} (S : SA K G s σ H) (ha : H a = some (.lst xs)) (hd : RpAll K G xs ds) (hg : G a = none) (hn : ¬ Own s σ a) :
    Ex G (upd G a (.lst xs)) ∧ SA K (upd G a (.lst xs)) s σ H ∧ Rp K (upd G a (.lst xs)) (.ref a) (.list ds) := by
  have ug : Ex G (upd G a (.lst xs)) := Ex.new hg
  refine ⟨ug, ⟨S.len, fun b u h => ?_, fun i sl h => ?_, S.inj, fun i b z => ?_, ?_, S.pne⟩, .lst upd_same (dps_mono ug _ _ hd)⟩
  · by_cases e : b = a
    · subst e; rw [upd_same] at h; rw [ha]; exact h
    · rw [upd_ne e] at h; exact S.gh b u h
  · have q := S.slot i sl h
    cases sl with
    | no => trivial
    | val d => obtain ⟨v, e, hd⟩ := q; exact ⟨v, e, dp_mono ug _ _ hd⟩
    | raw v => exact q
    | ob o => obtain ⟨v, e, hd⟩ := q; exact ⟨v, e, ob_mono ug hd⟩
    | own es => obtain ⟨b, ys, e, hb, hh⟩ := q; exact ⟨b, ys, e, hb, dps_mono ug _ _ hh⟩
  · rw [upd_ne fun e => hn (by subst e; exact .inl ⟨i, z⟩)]; exact S.ownG i b z
  · have q := S.pw
    unfold PwOk at q ⊢
    split
    · trivial
    · rename_i pa ca cells t e
      rw [e] at q
      refine ⟨q.1, q.2.1, q.2.2.1, ?_, ?_⟩
      · rw [upd_ne fun z => hn (by subst z; exact .inr (by rw [e]; exact .inl rfl))]; exact q.2.2.2.1
      · rw [upd_ne fun z => hn (by subst z; exact .inr (by rw [e]; exact .inr rfl))]; exact q.2.2.2.2
/-- a slot's list is known from now on -/
theorem own_set {s : DSt} {σ : L2.St} {i j : Nat} {d : PyData} {a : Addr} : OwnAt { s with d := s.d.set i (.val d) } σ j a ↔ j ≠ i ∧ OwnAt s σ j a := by
  constructor
  · rintro ⟨⟨ds, e⟩, h⟩
    by_cases q : j = i
    · subst q
      simp only [List.getElem?_set] at e
      split at e
      · split at e <;> cases e
      · rename_i z; simp at z
    · simp only [List.getElem?_set_ne (Ne.symm q)] at e
      exact ⟨q, ⟨ds, e⟩, h⟩
  · rintro ⟨q, ⟨ds, e⟩, h⟩
    refine ⟨⟨ds, ?_⟩, h⟩
    simp only [List.getElem?_set_ne (Ne.symm q)]
    exact e
theorem slot_known {K : PySem.W.Frag} {G H : Hp} {s : DSt} {σ : L2.St} {i : Nat} {ds : List PyData} (S : SA K G s σ H) (h : s.d[i]? = some (.own ds)) :
    ∃ a xs, σ[i]? = some (some (.ref a)) ∧ H a = some (.lst xs) ∧ Stp G s σ H (upd G a (.lst xs)) { s with d := s.d.set i (.val (.list ds)) } σ H ∧ SA K (upd G a (.lst xs)) { s with d := s.d.set i (.val (.list ds)) } σ H ∧ Rp K (upd G a (.lst xs)) (.ref a) (.list ds) := by
  obtain ⟨a, xs, e, ha, hd⟩ := S.slot i _ h
  have e' : σ[i]? = some (some (.ref a)) := by
    cases z : σ[i]? with
    | none => rw [z] at e; cases e
    | some o => rw [z] at e; simp at e; rw [e]
  have hown : OwnAt s σ i a := ⟨⟨ds, h⟩, e'⟩
  have hg := S.ownG i a hown
  have il : i < s.d.length := (List.getElem?_eq_some_iff.mp h).1
  have ug : Ex G (upd G a (.lst xs)) := Ex.new hg
  have rp : Rp K (upd G a (.lst xs)) (.ref a) (.list ds) := .lst upd_same (dps_mono ug _ _ hd)
  refine ⟨a, xs, e', ha, ⟨ug, fun b u hb nb => ⟨hb, upd_ne fun z => nb (by subst z; exact .inl ⟨i, hown⟩)⟩, fun b z => ?_, fun b z => z, fun b z => z⟩, ⟨by simp [S.len], fun b u hb => ?_, fun j sl hj => ?_, fun j k b h1 h2 => ?_, fun j b z => ?_, ?_, fun j b z => ?_⟩, rp⟩
  · refine .inl ?_
    rcases z with ⟨j, z⟩ | z
    · exact .inl ⟨j, (own_set.mp z).2⟩
    · exact .inr z
  · by_cases q : b = a
    · subst q; rw [upd_same] at hb; rw [ha]; exact hb
    · rw [upd_ne q] at hb; exact S.gh b u hb
  · by_cases q : j = i
    · subst q
      simp only [List.getElem?_set_self il] at hj
      cases hj
      exact ⟨.ref a, by rw [e'] <;> rfl, rp⟩
    · simp only [List.getElem?_set_ne (Ne.symm q)] at hj
      have z := S.slot j sl hj
      cases sl with
      | no => trivial
      | val d => obtain ⟨v, e, hd⟩ := z; exact ⟨v, e, dp_mono ug _ _ hd⟩
      | raw v => exact z
      | ob o => obtain ⟨v, e, hd⟩ := z; exact ⟨v, e, ob_mono ug hd⟩
      | own es => obtain ⟨b, ys, e, hb, hh⟩ := z; exact ⟨b, ys, e, hb, dps_mono ug _ _ hh⟩
  · exact S.inj j k b (own_set.mp h1).2 (own_set.mp h2).2
  · obtain ⟨q, z⟩ := own_set.mp z
    rw [upd_ne fun e => q (by subst e; exact S.inj j i b z hown)]
    exact S.ownG j b z
  · have q := S.pw
    have pn := S.pne i a hown
    unfold PwOk at q ⊢
    split
    · trivial
    · rename_i pa ca cells t e
      have e : s.w = some (pa, ca, cells, t) := e
      rw [e] at q pn
      refine ⟨q.1, q.2.1, q.2.2.1, ?_, ?_⟩
      · rw [upd_ne fun z => pn (.inl z.symm)]; exact q.2.2.2.1
      · rw [upd_ne fun z => pn (.inr z.symm)]; exact q.2.2.2.2
  · exact S.pne j b (own_set.mp z).2
/-- an adjusting step, from a start on -/
theorem esc_ok {K : PySem.W.Frag} {G0 H0 G H : Hp} {s0 s : DSt} {σ0 σ : L2.St} {v : V} {r r' : R} {s' : DSt} (S : SA K G s σ H) (st : Stp G0 s0 σ0 H0 G s σ H) (h : RRel K H0 G s σ H v r) (e : esc r s = some (r', s')) :
    ∃ G', Stp G0 s0 σ0 H0 G' s' σ H ∧ SA K G' s' σ H ∧ Ex G G' ∧ AR K G' v r' := by
  cases r with
  | val d => cases e; exact ⟨G, st, S, Ex.refl G, h⟩
  | raw u => cases e; exact ⟨G, st, S, Ex.refl G, h⟩
  | ob o => cases e; exact ⟨G, st, S, Ex.refl G, h⟩
  | new ds =>
    cases e
    obtain ⟨a, xs, rfl, ha, hd, hg, h0, hn⟩ := h
    obtain ⟨ug, S', rp⟩ := know S ha hd hg hn
    refine ⟨_, ⟨st.ex.trans ug, fun b u hb nb => ?_, st.own, st.dom, st.pw⟩, S', ug, rp⟩
    obtain ⟨h1, g1⟩ := st.keep b u hb nb
    exact ⟨h1, by rw [upd_ne fun z => by subst z; rw [h0] at hb; cases hb]; exact g1⟩
  | slot i =>
    simp only [esc] at e
    split at e
    · rename_i ds q
      cases e
      obtain ⟨a, xs, e1, ha, st', S', rp⟩ := slot_known S q
      have h' : σ[i]? = some (some v) := h
      rw [e1] at h'
      cases h'
      exact ⟨_, st.trans st', S', st'.ex, rp⟩
    · rename_i d q
      cases e
      have h' : σ[i]? = some (some v) := h
      obtain ⟨u, e1, hd⟩ := S.slot i _ q
      rw [h'] at e1
      cases e1
      exact ⟨G, st, S, Ex.refl G, hd⟩
    · cases e
def fEsc (r : R) : M R := fun s => match esc r s with
  | some (r', s') => .ok r' s'
  | none => .stuck
theorem ar_mono {K : PySem.W.Frag} {G G' : Hp} {v : V} {r : R} (e : Ex G G') (h : AR K G v r) : AR K G' v r := by
  cases r with
  | val d => exact dp_mono e _ _ h
  | raw u => exact h
  | ob o => exact ob_mono e h
  | new ds => exact h
  | slot i => exact h
end
end DL

/-! DL5: argument lists, displays, slices, statements -/
noncomputable section
namespace DL
open PySem L2 PyProof.Rows
open Evl (Ex)
section
variable {K : PySem.W.Frag} {cl : String → Addr} {W : WX} {G H : Hp} {s : DSt} {σ : L2.St}
/-- from a start on -/
def OutF {α : Type} (K : PySem.W.Frag) (cl : String → Addr) (W : WX) (G0 : Hp) (s0 : DSt) (σ0 : L2.St) (H0 : Hp) (σ : L2.St) (r : Res α) (k : α → Hp → DSt → Hp → Prop) : Prop := match r with
  | .ok a s' => ∀ G' H', Stp G0 s0 σ0 H0 G' s' σ H' → SA K G' s' σ H' → k a G' s' H'
  | .err x s' => ∀ cls d G' H', Stp G0 s0 σ0 H0 G' s' σ H' → SA K G' s' σ H' → XRel K cl x cls d H' → W cls d σ H'
  | .stuck => False
/-- an expression's value, then an adjustment -/
theorem out_esc {β : Type} {f : Res R} {g : R → M β} {k : β → Hp → DSt → Hp → Prop} (h : Out K cl W G s σ H (f.bind fun r => bnd (fEsc r) g) k) :
    Out K cl W G s σ H f fun r G1 s1 H1 => ∀ v, RRel K H G1 s1 σ H1 v r → ∃ G2 s2 r2, Stp G s σ H G2 s2 σ H1 ∧ SA K G2 s2 σ H1 ∧ AR K G2 v r2 ∧ Ex G1 G2 ∧
      Out K cl W G2 s2 σ H1 (g r2 s2) k := by
  cases f with
  | ok r s1 =>
    intro G1 H1 st S1 v rr
    have h : Out K cl W G s σ H ((fEsc r s1).bind g) k := h
    unfold fEsc at h
    cases e : esc r s1 with
    | none => rw [e] at h; exact h.elim
    | some p =>
      obtain ⟨r2, s2⟩ := p
      rw [e] at h
      obtain ⟨G2, st2, S2, ex, ar⟩ := esc_ok S1 st rr e
      refine ⟨G2, s2, r2, st2, S2, ar, ex, ?_⟩
      have h : Out K cl W G s σ H (g r2 s2) k := h
      cases q : g r2 s2 with
      | ok b s3 => rw [q] at h; exact fun G3 H3 st3 S3 => h G3 H3 (st2.trans st3) S3
      | err x s3 => rw [q] at h; exact fun c d G3 H3 st3 S3 xr => h c d G3 H3 (st2.trans st3) S3 xr
      | stuck => rw [q] at h; exact h
  | err x s1 => exact h
  | stuck => exact h
/-- escaped arguments -/
def tAe (K : PySem.W.Frag) (cl : String → Addr) (W : WX) (f : M (List R)) : TA := fun σ H Q => ∃ G s, SA K G s σ H ∧ Out K cl W G s σ H (f s) fun rs G' s' H' => ∀ vs, Paired (AR K G') vs rs → Q vs H'
end
section
variable {X : Cx} {cl : String → Addr} {W : WX} {e a b c : Expr} {es : List Expr} {f g : M R} {fs : M (List R)} {pos : Pos}
abbrev DAe (X : Cx) (cl : String → Addr) (W : WX) (es : List Expr) (f : M (List R)) : Prop := PA X es (tAe X.K cl W f)
def fNil : M (List R) := ret []
def fCons (f : M R) (fs : M (List R)) : M (List R) := bnd f fun r => bnd (fEsc r) fun r' => bnd fs fun rs => ret (r' :: rs)
def pCons (f : M R) (fs : M (List R)) : M (List R) := bnd f fun r => bnd fs fun rs => ret (r :: rs)
theorem ae_nil : DAe X cl W [] fNil := pa_imp pa_nil fun σ H Q ⟨G, s, S, q⟩ => q G H Stp.refl S [] .nil
theorem pair_ar {K : PySem.W.Frag} {G G' : Hp} (e : Ex G G') : ∀ {vs : List V} {rs : List R}, Paired (AR K G) vs rs → Paired (AR K G') vs rs
  | _, _, .nil => .nil
  | _, _, .cons h t => .cons (ar_mono e h) (pair_ar e t)
theorem ae_cons (ha : DE X cl W e f) (hr : DAe X cl W es fs) (hs : starEach (e :: es) X.env = (false, eval e X.env) :: starEach es X.env := by rfl) : DAe X cl W (e :: es) (fCons f fs) := by
  refine pa_imp (pa_cons ha hr hs) fun σ H Q ⟨G, s, S, q⟩ => ?_
  refine ⟨G, s, S, out_mono (out_esc q) fun r G1 s1 H1 st S1 k v rr => ?_⟩
  obtain ⟨G2, s2, r2, st2, S2, ar, ex, k2⟩ := k v rr
  refine ⟨G2, s2, S2, out_mono (out_bind k2) fun rs G3 s3 H3 st3 S3 k3 vs hv => ?_⟩
  exact k3 G3 H3 Stp.refl S3 (v :: vs) (.cons (ar_mono st3.ex ar) hv)
theorem ap_nil : DA X cl W [] fNil := pa_imp pa_nil fun σ H Q ⟨G, s, S, q⟩ => q G H Stp.refl S [] .nil
theorem pair_less {K : PySem.W.Frag} {H0 H1 G H : Hp} {s : DSt} {σ : L2.St} (d : ∀ a, H0 a ≠ none → H1 a ≠ none) : ∀ {vs : List V} {rs : List R}, RRels K H1 G s σ H vs rs → RRels K H0 G s σ H vs rs
  | _, _, .nil => .nil
  | _, _, .cons h t => .cons (h.less d) (pair_less d t)
theorem ap_cons (ha : DE X cl W e f) (hr : DA X cl W es fs) (hs : starEach (e :: es) X.env = (false, eval e X.env) :: starEach es X.env := by rfl) : DA X cl W (e :: es) (pCons f fs) := by
  refine pa_imp (pa_cons ha hr hs) fun σ H Q ⟨G, s, S, q⟩ => ?_
  refine ⟨G, s, S, out_mono (out_bind q) fun r G1 s1 H1 st S1 k v rr => ?_⟩
  refine ⟨G1, s1, S1, out_mono (out_bind k) fun rs G3 s3 H3 st3 S3 k3 vs hv => ?_⟩
  exact k3 G3 H3 Stp.refl S3 (v :: vs) (.cons (rr.mono st3) (pair_less st.dom hv))
/-- known data of results -/
def datas : List R → Option (List PyData)
  | [] => some []
  | .val d :: r => (datas r).map (d :: ·)
  | _ :: _ => none
theorem datas_rp {K : PySem.W.Frag} {G : Hp} : ∀ {rs : List R} {vs : List V} {ds : List PyData}, Paired (AR K G) vs rs → datas rs = some ds → RpAll K G vs ds
  | [], _, ds, .nil, e => by cases e; exact .nil
  | .val d :: r, _, ds, .cons h t, e => by
    simp only [datas] at e
    cases q : datas r with
    | none => rw [q] at e; cases e
    | some es => rw [q] at e; cases e; exact .cons h (datas_rp t q)
  | .raw _ :: _, _, _, _, e | .ob _ :: _, _, _, _, e | .new _ :: _, _, _, _, e | .slot _ :: _, _, _, _, e => by cases e
def fLst (fs : M (List R)) : M R := bnd fs fun rs s => match datas rs with
  | some ds => if leS (ds.length) then .ok (.new ds) s else .stuck
  | none => .stuck
def fTup (fs : M (List R)) : M R := bnd fs fun rs s => match datas rs with
  | some ds => if leS (ds.length) then .ok (.val (.tuple ds)) s else .stuck
  | none => .stuck
theorem d_lst (h : DAe X cl W es fs) : DE X cl W (.List es pos) (fLst fs) := by
  refine pe_imp (pe_lst h) fun σ H Q ⟨G, s, S, q⟩ => ?_
  refine ⟨G, s, S, out_mono (out_bind q) fun rs G1 s1 H1 st S1 k vs hv => ?_⟩
  split at k
  · rename_i ds e
    split at k
    · rename_i hl
      have hd := datas_rp hv e
      refine ⟨by rw [dps_len hd]; exact hl, fun p hp => ?_⟩
      obtain ⟨st2, S2, rr⟩ := new_list S1 hp hd st.dom
      exact k _ _ st2 S2 _ rr
    · exact k.elim
  · exact k.elim
theorem d_tup {x1} (h : DAe X cl W es fs) : DE X cl W (.Tuple es x1 pos) (fTup fs) := by
  refine pe_imp (pe_tup h) fun σ H Q ⟨G, s, S, q⟩ => ?_
  refine ⟨G, s, S, out_mono (out_bind q) fun rs G1 s1 H1 st S1 k vs hv => ?_⟩
  split at k
  · rename_i ds e
    split at k
    · rename_i hl
      have hd := datas_rp hv e
      refine ⟨by rw [dps_len hd]; exact hl, fun p hp => ?_⟩
      obtain ⟨st2, S2⟩ := new_known (.tup vs) S1 hp
      exact k _ _ st2 S2 _ (.tup (.of upd_same) (dps_mono st2.ex _ _ hd))
    · exact k.elim
  · exact k.elim

/-! ### slices -/
def fPart (f : M R) : M (Option Int) := bnd f fun r s => match look r s with
  | some (.int i) => .ok (some i) s
  | _ => .stuck
def fNoPart : M (Option Int) := ret none
def tP (K : PySem.W.Frag) (cl : String → Addr) (W : WX) (f : M (Option Int)) : TO := fun σ H Q => ∃ G s, SA K G s σ H ∧ Out K cl W G s σ H (f s) fun o _ _ H' => Q o H'
theorem po_imp {o : Option Expr} {t t' : TO} (h : PO X o t) (i : ∀ σ H Q, t' σ H Q → t σ H Q) : PO X o t' := ⟨fun pins s σ H Q I q => h.run pins s σ H Q I (i σ H Q q)⟩
abbrev DP (X : Cx) (cl : String → Addr) (W : WX) (o : Option Expr) (f : M (Option Int)) : Prop := PO X o (tP X.K cl W f)
theorem dp_none : DP X cl W none fNoPart := po_imp po_none fun σ H Q ⟨G, s, S, q⟩ => q G H Stp.refl S
theorem dp_some (h : DE X cl W e f) : DP X cl W (some e) (fPart f) := po_imp (po_some h) fun σ H Q ⟨G, s, S, q⟩ => by
  refine ⟨G, s, S, out_mono (out_bind q) fun r G1 s1 H1 st S1 k v rr => ?_⟩
  split at k
  · rename_i i e
    obtain rfl := dq_int (look_q S1 rr e)
    exact ⟨i, rfl, k G1 H1 Stp.refl S1⟩
  · exact k.elim
def cutD (xs : List PyData) (lo hi : Option Int) : List PyData := (xs.drop (HT.sIx xs.length 0 lo)).take (HT.sIx xs.length xs.length hi - HT.sIx xs.length 0 lo)
def sliceO (d : PyData) (lo hi : Option Int) : Option R := match d with
  | .list xs => some (.new (cutD xs lo hi))
  | .tuple xs => some (.val (.tuple (cutD xs lo hi)))
  | _ => none
def fSlice (f : M R) (l h : M (Option Int)) : M R := bnd f fun x => bnd l fun lo => bnd h fun hi s => match look x s with
  | some d => match sliceO d lo hi with
    | some (.slot _) => .stuck
    | some r => .ok r s
    | none => .stuck
  | none => .stuck
theorem cut_rp {K : PySem.W.Frag} {G : Hp} {xs : List V} {ds : List PyData} {lo hi : Option Int} (h : RpAll K G xs ds) : RpAll K G (cutV xs lo hi) (cutD ds lo hi) := by
  unfold cutV cutD
  rw [dps_len h]
  exact dps_take _ (dps_drop _ h)
theorem d_slice {lo hi : Option Expr} {l h : M (Option Int)} {p2 : Pos} (ha : DE X cl W e f) (hl : DP X cl W lo l) (hh : DP X cl W hi h) : DE X cl W (.Subscript e (.Slice lo hi none p2) pos) (fSlice f l h) := by
  refine pe_imp (pe_slice (sl_list.or sl_tupA) ha hl hh) fun σ H Q ⟨G, s, S, q⟩ => ?_
  refine ⟨G, s, S, out_mono (out_bind q) fun x G1 s1 H1 st1 S1 q1 v1 r1 => ⟨G1, s1, S1, ?_⟩⟩
  refine out_mono (out_bind q1) fun lo G2 s2 H2 st2 S2 q2 => ⟨G2, s2, S2, ?_⟩
  refine out_mono (out_bind q2) fun hi G3 s3 H3 st3 S3 q3 => ?_
  have r3 := (r1.mono st2).mono st3
  split at q3
  · rename_i d e
    have hd := look_q S3 r3 e
    split at q3
    · exact q3.elim
    · rename_i r ns ho
      have an := ans_of S3 ((st1.trans st2).trans st3).dom (fun i z => ns i z) q3
      unfold sliceO at ho
      split at ho
      · cases ho
        obtain ⟨p, xs, rfl, hp, hpx⟩ := dq_lst hd
        exact .inl ⟨p, xs, rfl, .of hp, fun l hl => an l _ hl (cut_rp hpx)⟩
      · rename_i ds
        cases ho
        obtain ⟨p, xs, rfl, hp, hpx, h1⟩ := dq_tup S3.gh hd
        refine .inr ⟨p, xs, rfl, hp, fun ⟨z1, z2⟩ => ?_, fun _ l hl => an.2 _ l _ rfl hl (cut_rp hpx)⟩
        refine an.1 _ ?_
        have e1 : cutD ds lo hi = ds := by
          unfold cutD
          rw [← dps_len hpx, z1, z2, dps_len hpx]
          simp
        rw [e1]
        exact h1
      · cases ho
    · exact q3.elim
  · exact q3.elim
def revO : PyData → Option R
  | .list xs => some (.new xs.reverse)
  | _ => none
def fUn (o : R → M R) (f : M R) : M R := bnd f o
theorem d_rev {k : Nat} {p1 p2 p3 : Pos} (ha : DE X cl W e f) : DE X cl W (.Subscript e (.Slice none none (some (.UnaryOp .USub (.Constant (.int 1) k p1) p2)) p3) pos) (fUn (lift1 revO) f) := by
  refine pe_imp (pe_revL ha) fun σ H Q ⟨G, s, S, q⟩ => ?_
  refine ⟨G, s, S, out_mono (out_bind q) fun x G1 s1 H1 st1 S1 q1 v1 r1 => ?_⟩
  unfold lift1 at q1
  split at q1
  · rename_i d e
    have hd := look_q S1 r1 e
    split at q1
    · exact q1.elim
    · rename_i r ns ho
      have an := ans_of S1 st1.dom (fun i z => ns i z) q1
      unfold revO at ho
      split at ho
      · cases ho
        obtain ⟨p, xs, rfl, hp, hpx⟩ := dq_lst hd
        exact ⟨p, xs, rfl, .of hp, fun l hl => an l _ hl (dps_rev hpx)⟩
      · cases ho
    · exact q1.elim
  · exact q1.elim
def negO : PyData → Option R
  | .int i => some (.val (.int (-i)))
  | _ => none
theorem d_neg (ha : DE X cl W e f) : DE X cl W (.UnaryOp .USub e pos) (fUn (lift1 negO) f) := by
  refine pe_imp (pe_un un_neg ha) fun σ H Q ⟨G, s, S, q⟩ => ?_
  refine ⟨G, s, S, out_mono (out_bind q) fun x G1 s1 H1 st1 S1 q1 v1 r1 => ?_⟩
  unfold lift1 at q1
  split at q1
  · rename_i d e
    have hd := look_q S1 r1 e
    split at q1
    · exact q1.elim
    · rename_i r ns ho
      have an := ans_of S1 st1.dom (fun i z => ns i z) q1
      unfold negO at ho
      split at ho
      · cases ho
        obtain rfl := dq_int hd
        exact ⟨_, rfl, an.1 _ (.int _)⟩
      · cases ho
    · exact q1.elim
  · exact q1.elim
/-- x is None, x is not None -/
def isNR (r : R) (s : DSt) : Option Bool := match r with
  | .raw v => some (decide (v = .non))
  | .ob _ => some false
  | r => match look r s with
    | some .none => some true
    | some _ => some false
    | none => none
def fIsN (neg : Bool) (f : M R) : M R := bnd f fun r s => match isNR r s with
  | some b => .ok (.val (.bool (if neg then !b else b))) s
  | none => .stuck
theorem isNR_ok {K : PySem.W.Frag} {H0 G H : Hp} {s : DSt} {σ : L2.St} {v : V} {r : R} {b : Bool} (S : SA K G s σ H) (h : RRel K H0 G s σ H v r) (e : isNR r s = some b) : decide (v = .non) = b := by
  have go : ∀ d, Dq K G H v d → (match some d with | some PyData.none => some true | some _ => some false | none => none) = some b → decide (v = .non) = b := by
    intro d hd e
    cases d with
    | none => cases e; cases (show Rp K G v .none from hd); rfl
    | bool x => cases e; cases (show Rp K G v (.bool x) from hd); rfl
    | int x => cases e; cases (show Rp K G v (.int x) from hd); rfl
    | str x => cases e; cases (show Rp K G v (.str x) from hd); rfl
    | list x => cases e; obtain ⟨a, xs, rfl, _⟩ := dq_lst hd; rfl
    | tuple x => cases e; cases (show Rp K G v (.tuple x) from hd); rfl
    | dict x => cases (show Rp K G v (.dict x) from hd)
  unfold isNR at e
  split at e
  · cases e
    have h : v = _ := h
    rw [h]
  · cases e
    rename_i o
    cases o with
    | dict kvs => obtain ⟨a, vs, rfl, _⟩ := h; rfl
    | exc x => obtain ⟨a, d, rfl, _⟩ := h; rfl
    | set S n => obtain ⟨a, rfl, _⟩ := h; rfl
    | scr ns => obtain ⟨a, rfl, _⟩ := h; rfl
  · split at e
    · rename_i q; exact go _ (look_q S h q) e
    · rename_i d _ q
      refine go d (look_q S h q) ?_
      rw [← e]
      split
      · rename_i z _ w; exact absurd (Option.some.inj w) (by assumption)
      · rfl
      · rename_i w; cases w
    · cases e
theorem is_reads {rl : TE → TE} (neg : Bool) (hf : ∀ te σ H Q, te σ H (fun x H1 => Q (.bl (if neg then !decide (x = V.non) else decide (x = V.non))) H1) → rl te σ H Q) {K : PySem.W.Frag} {σ : L2.St} {H : Hp} {Q : VK} (q : tD K cl W (fIsN neg f) σ H Q) : rl (tD K cl W f) σ H Q := by
  obtain ⟨G, s, S, q⟩ := q
  refine hf _ _ _ _ ⟨G, s, S, out_mono (out_bind q) fun x G1 s1 H1 st1 S1 q1 v1 r1 => ?_⟩
  split at q1
  · rename_i b e
    have z := isNR_ok S1 r1 e
    have an := q1 G1 H1 Stp.refl S1 (.bl (if neg then !b else b)) (.bl _)
    rw [← z] at an
    exact an
  · exact q1.elim
theorem d_isN {j pos'} (ha : DE X cl W a f) : DE X cl W (.Compare a [.Is] [.Constant .none j pos'] pos) (fIsN false f) := pe_imp (pe_cmp (pc_isN ha) rfl) fun σ H Q q => is_reads (rl := tIsN) false (fun _ _ _ _ h => h) q
theorem d_notN {j pos'} (ha : DE X cl W a f) : DE X cl W (.Compare a [.IsNot] [.Constant .none j pos'] pos) (fIsN true f) := pe_imp (pe_cmp (pc_notN ha) rfl) fun σ H Q q => is_reads (rl := tNotN) true (fun _ _ _ _ h => h) q
theorem t_isN {j pos'} (ha : DE X cl W a f) : DT X cl W (.Compare a [.Is] [.Constant .none j pos'] pos) (fB (fIsN false f)) := pt_imp (pt_cmp (pc_isN ha) rfl) fun σ H Q q => is_reads (rl := tIsN) false (fun _ _ _ _ h => h) (test_of q)
theorem t_notN {j pos'} (ha : DE X cl W a f) : DT X cl W (.Compare a [.IsNot] [.Constant .none j pos'] pos) (fB (fIsN true f)) := pt_imp (pt_cmp (pc_notN ha) rfl) fun σ H Q q => is_reads (rl := tNotN) true (fun _ _ _ _ h => h) (test_of q)
/-- comparisons as tests -/
theorem t_lt (ha : DE X cl W a f) (hb : DE X cl W b g) : DT X cl W (.Compare a [.Lt] [b] pos) (fB (fOp (lift2 ltO) f g)) := d_opT (fun h1 h2 => pt_cmpR op_lt h1 h2 (nomark _)) (ops_lift opd_lt) ha hb
theorem t_le (ha : DE X cl W a f) (hb : DE X cl W b g) : DT X cl W (.Compare a [.LtE] [b] pos) (fB (fOp (lift2 leO) f g)) := d_opT (fun h1 h2 => pt_cmpR op_le h1 h2 (nomark _)) (ops_lift opd_le) ha hb
theorem t_gt (ha : DE X cl W a f) (hb : DE X cl W b g) : DT X cl W (.Compare a [.Gt] [b] pos) (fB (fOp (lift2 gtO) f g)) := d_opT (fun h1 h2 => pt_cmpR op_gt h1 h2 (nomark _)) (ops_lift opd_gt) ha hb
theorem t_ge (ha : DE X cl W a f) (hb : DE X cl W b g) : DT X cl W (.Compare a [.GtE] [b] pos) (fB (fOp (lift2 geO) f g)) := d_opT (fun h1 h2 => pt_cmpR op_ge h1 h2 (nomark _)) (ops_lift opd_ge) ha hb
theorem t_eq (hu : X.A.units + 64 < cLine) (ha : DE X cl W a f) (hb : DE X cl W b g) : DT X cl W (.Compare a [.Eq] [b] pos) (fB (fOp (lift2 eqO) f g)) := d_opT (fun h1 h2 => pt_cmpR (op_eqP hu) h1 h2 (nomark _)) (ops_lift opd_eq) ha hb
theorem t_ne (hu : X.A.units + 64 < cLine) (ha : DE X cl W a f) (hb : DE X cl W b g) : DT X cl W (.Compare a [.NotEq] [b] pos) (fB (fOp (lift2 neO) f g)) := d_opT (fun h1 h2 => pt_cmpR (op_neP hu) h1 h2 (nomark _)) (ops_lift opd_ne) ha hb
theorem t_in (hu : X.A.units + 64 < cLine) (hm : behindInMarks .In b = false) (ha : DE X cl W a f) (hb : DE X cl W b g) : DT X cl W (.Compare a [.In] [b] pos) (fB (fOp (lift2 inO) f g)) := d_opT (fun h1 h2 => pt_cmpR (op_inP hu) h1 h2 hm) (ops_lift opd_in) ha hb
theorem t_notIn (hu : X.A.units + 64 < cLine) (hm : behindInMarks .NotIn b = false) (ha : DE X cl W a f) (hb : DE X cl W b g) : DT X cl W (.Compare a [.NotIn] [b] pos) (fB (fOp (lift2 notInO) f g)) := d_opT (fun h1 h2 => pt_cmpR (op_notInP hu) h1 h2 hm) (ops_lift opd_notIn) ha hb
end
end DL

/-! DL6: statements, loops -/
noncomputable section
namespace DL
open PySem L2 PyProof.Rows
open Evl (Ex)
/-! ### a slot is set -/
def putS (i : Nat) (x : Sl) (s : DSt) : DSt := { s with d := s.d.set i x }
/-- what a name holds behind x = e -/
def store (i : Nat) (r : R) (s : DSt) : Option DSt := match r with
  | .val d => some (putS i (.val d) s)
  | .raw v => some (putS i (.raw v) s)
  | .ob o => some (putS i (.ob o) s)
  | .new ds => some (putS i (.own ds) s)
  | .slot j => match s.d[j]? with
    | some (.own ds) => some (putS i (.val (.list ds)) (putS j (.val (.list ds)) s))
    | some (.val d) => some (putS i (.val d) s)
    | _ => none
section
variable {K : PySem.W.Frag} {G H G0 H0 : Hp} {s s0 : DSt} {σ σ0 : L2.St}
theorem own_put {i j : Nat} {x : Sl} {v : V} {a : Addr} (hi : i < s.d.length) (hl : s.d.length = σ.length) : OwnAt (putS i x s) (σ.set i (some v)) j a → (j = i ∧ (∃ ds, x = .own ds) ∧ v = .ref a) ∨ (j ≠ i ∧ OwnAt s σ j a) := by
  rintro ⟨⟨ds, e⟩, h⟩
  by_cases q : j = i
  · subst q
    unfold putS at e
    simp only [List.getElem?_set_self hi] at e
    rw [List.getElem?_set_self (by omega)] at h
    cases e
    cases h
    exact .inl ⟨rfl, ⟨ds, rfl⟩, rfl⟩
  · unfold putS at e
    simp only [List.getElem?_set_ne (Ne.symm q)] at e
    rw [List.getElem?_set_ne (Ne.symm q)] at h
    exact .inr ⟨q, ⟨ds, e⟩, h⟩
/-- a slot takes what is known, or an own list -/
theorem put_ok {i : Nat} {x : Sl} {v : V} (S : SA K G s σ H) (hi : i < s.d.length) (hx : SlOk K G H (some v) x) (ho : ∀ ds a, x = .own ds → v = .ref a → G a = none ∧ ¬ POwn s.w a ∧ ∀ j, j ≠ i → ¬ OwnAt s σ j a) : SA K G (putS i x s) (σ.set i (some v)) H := by
  refine ⟨by simp [putS, S.len], S.gh, fun j sl h => ?_, fun j k a h1 h2 => ?_, fun j a h => ?_, S.pw, fun j a h => ?_⟩
  · by_cases q : j = i
    · subst q
      simp only [putS, List.getElem?_set_self hi] at h
      cases h
      rw [List.getElem?_set_self (by rw [← S.len]; exact hi)]
      exact hx
    · simp only [putS, List.getElem?_set_ne (Ne.symm q)] at h
      rw [List.getElem?_set_ne (Ne.symm q)]
      exact S.slot j sl h
  · rcases own_put hi S.len h1 with ⟨e1, ⟨ds, e2⟩, e3⟩ | ⟨e1, h1⟩ <;> rcases own_put hi S.len h2 with ⟨f1, ⟨es, f2⟩, f3⟩ | ⟨f1, h2⟩
    · rw [e1, f1]
    · exact absurd h2 ((ho ds a e2 e3).2.2 k f1)
    · exact absurd h1 ((ho es a f2 f3).2.2 j e1)
    · exact S.inj j k a h1 h2
  · rcases own_put hi S.len h with ⟨e1, ⟨ds, e2⟩, e3⟩ | ⟨e1, h1⟩
    · exact (ho ds a e2 e3).1
    · exact S.ownG j a h1
  · rcases own_put hi S.len h with ⟨e1, ⟨ds, e2⟩, e3⟩ | ⟨e1, h1⟩
    · exact (ho ds a e2 e3).2.1
    · exact S.pne j a h1
theorem put_stp {i : Nat} {x : Sl} {v : V} (S : SA K G s σ H) (st : Stp G0 s0 σ0 H0 G s σ H) (hi : i < s.d.length) (ho : ∀ ds a, x = .own ds → v = .ref a → H0 a = none ∨ Own s σ a) : Stp G0 s0 σ0 H0 G (putS i x s) (σ.set i (some v)) H := by
  refine ⟨st.ex, st.keep, fun a z => ?_, st.dom, st.pw⟩
  rcases z with ⟨j, z⟩ | z
  · rcases own_put hi S.len z with ⟨e1, ⟨ds, e2⟩, e3⟩ | ⟨e1, h1⟩
    · rcases ho ds a e2 e3 with q | q
      · exact .inr q
      · exact st.own a q
    · exact st.own a (.inl ⟨j, h1⟩)
  · exact st.own a (.inr z)
theorem set_len {s s' : DSt} {i : Nat} {r : R} (h : store i r s = some s') : s'.d.length = s.d.length := by
  unfold store at h
  split at h
  · cases h; simp [putS]
  · cases h; simp [putS]
  · cases h; simp [putS]
  · cases h; simp [putS]
  · split at h
    · cases h; simp [putS]
    · cases h; simp [putS]
    · cases h
theorem store_good {i : Nat} {r : R} {v : V} {s' : DSt} (S : SA K G s σ H) (st : Stp G0 s0 σ0 H0 G s σ H) (h : RRel K H0 G s σ H v r) (hi : i < s.d.length) (e : store i r s = some s') :
    ∃ G', Stp G0 s0 σ0 H0 G' s' (σ.set i (some v)) H ∧ SA K G' s' (σ.set i (some v)) H ∧ Ex G G' := by
  cases r with
  | val d => cases e; exact ⟨G, put_stp S st hi (by intro _ _ z; cases z), put_ok S hi ⟨v, rfl, h⟩ (by intro _ _ z; cases z), Ex.refl G⟩
  | ob o => cases e; exact ⟨G, put_stp S st hi (by intro _ _ z; cases z), put_ok S hi ⟨v, rfl, h⟩ (by intro _ _ z; cases z), Ex.refl G⟩
  | raw u =>
    cases e
    have h : v = u := h
    subst h
    exact ⟨G, put_stp S st hi (by intro _ _ z; cases z), put_ok S hi rfl (by intro _ _ z; cases z), Ex.refl G⟩
  | new ds =>
    cases e
    obtain ⟨a, xs, rfl, ha, hd, hg, h0, hn⟩ := h
    refine ⟨G, put_stp S st hi (fun es b z1 z2 => ?_), put_ok S hi ⟨a, xs, rfl, ha, hd⟩ (fun es b z1 z2 => ?_), Ex.refl G⟩
    · cases z2; exact .inl h0
    · cases z2; exact ⟨hg, fun z => hn (.inr z), fun j _ z => hn (.inl ⟨j, z⟩)⟩
  | slot j =>
    simp only [store] at e
    split at e
    · rename_i ds q
      cases e
      obtain ⟨a, xs, e1, ha, st', S', rp⟩ := slot_known S q
      have h' : σ[j]? = some (some v) := h
      rw [e1] at h'
      cases h'
      have hi' : i < ({ s with d := s.d.set j (.val (.list ds)) } : DSt).d.length := by simpa using hi
      exact ⟨_, put_stp S' (st.trans st') hi' (by intro _ _ z; cases z), put_ok S' hi' ⟨_, rfl, rp⟩ (by intro _ _ z; cases z), st'.ex⟩
    · rename_i d q
      cases e
      have h' : σ[j]? = some (some v) := h
      obtain ⟨u, e1, hd⟩ := S.slot j _ q
      rw [h'] at e1
      cases e1
      exact ⟨G, put_stp S st hi (by intro _ _ z; cases z), put_ok S hi ⟨v, rfl, hd⟩ (by intro _ _ z; cases z), Ex.refl G⟩
    · cases e
end
/-! ### flows -/
def fseq (f g : DSt → Flow) : DSt → Flow := fun s => match f s with
  | .next s' => g s'
  | x => x
def fnext : DSt → Flow := fun s => .next s
section
variable {K : PySem.W.Frag} {cl : String → Addr} {W : WX} {G H G' H' : Hp} {s s' : DSt} {σ σ' : L2.St}
theorem fout_shift {fl : Flow} {D : Ends} (st : Stp G s σ H G' s' σ' H') (h : FOut K cl W G s σ H fl D) : FOut K cl W G' s' σ' H' fl D := by
  cases fl with
  | next s2 => exact fun G2 σ2 H2 st2 S2 => h G2 σ2 H2 (st.trans st2) S2
  | brk s2 => exact fun G2 σ2 H2 st2 S2 => h G2 σ2 H2 (st.trans st2) S2
  | cnt s2 => exact fun G2 σ2 H2 st2 S2 => h G2 σ2 H2 (st.trans st2) S2
  | ret r s2 => exact fun v G2 σ2 H2 st2 S2 rr => h v G2 σ2 H2 (st.trans st2) S2 (rr.less st.dom)
  | err x s2 => exact fun c d G2 σ2 H2 st2 S2 xr => h c d G2 σ2 H2 (st.trans st2) S2 xr
  | stuck => exact h
theorem fout_ends {fl : Flow} {D D' : Ends} (h : FOut K cl W G s σ H fl D) (h1 : ∀ σ H, D.nx σ H → D'.nx σ H) (h2 : ∀ v H, D.rt v H → D'.rt v H) (h3 : ∀ σ H, D.bk σ H → D'.bk σ H) (h4 : ∀ σ H, D.ct σ H → D'.ct σ H) : FOut K cl W G s σ H fl D' := by
  cases fl with
  | next s2 => exact fun G2 σ2 H2 st2 S2 => h1 _ _ (h G2 σ2 H2 st2 S2)
  | brk s2 => exact fun G2 σ2 H2 st2 S2 => h3 _ _ (h G2 σ2 H2 st2 S2)
  | cnt s2 => exact fun G2 σ2 H2 st2 S2 => h4 _ _ (h G2 σ2 H2 st2 S2)
  | ret r s2 => exact fun v G2 σ2 H2 st2 S2 rr => h2 _ _ (h v G2 σ2 H2 st2 S2 rr)
  | err x s2 => exact h
  | stuck => exact h
/-- a flow built on an expression's outcome -/
def onRes {α : Type} (r : Res α) (g : α → DSt → Flow) : Flow := match r with
  | .ok a s => g a s
  | .err x s => .err x s
  | .stuck => .stuck
theorem fout_res {α : Type} {r : Res α} {g : α → DSt → Flow} {D : Ends} (h : FOut K cl W G s σ H (onRes r g) D) : Out K cl W G s σ H r fun a G1 s1 H1 => FOut K cl W G s σ H (g a s1) D := by
  cases r with
  | ok a s1 => exact fun G1 H1 st S1 => h
  | err x s1 => exact fun c d G1 H1 st S1 xr => h c d G1 σ H1 st S1 xr
  | stuck => exact h
end
section
variable {X : Cx} {cl : String → Addr} {W : WX} {e a b c : Expr} {es : List Expr} {f g : M R} {fs : M (List R)} {pos : Pos} {st : Stmt} {rest : List Stmt} {p q : DSt → Flow}
theorem ss_nil : DSs X cl W [] fnext := pss_imp pss_nil fun D σ H ⟨G, s, S, h⟩ => h G σ H Stp.refl S
theorem ss_cons (h1 : DS X cl W st p) (h2 : DSs X cl W rest q) : DSs X cl W (st :: rest) (fseq p q) := by
  refine pss_imp (pss_cons h1 h2) fun D σ H ⟨G, s, S, h⟩ => ⟨G, s, S, ?_⟩
  unfold fseq at h
  cases z : p s with
  | next s' =>
    rw [z] at h
    exact fun G1 σ1 H1 st1 S1 => ⟨G1, s', S1, fout_shift st1 h⟩
  | brk s' => rw [z] at h; exact h
  | cnt s' => rw [z] at h; exact h
  | ret r s' => rw [z] at h; exact h
  | err x s' => rw [z] at h; exact h
  | stuck => rw [z] at h; exact h
theorem ss_one (h1 : DS X cl W st p) : DSs X cl W [st] p := pss_one h1
theorem s_pass : DS X cl W (.Pass pos) fnext := ps_imp ps_pass fun D σ H ⟨G, s, S, h⟩ => h G σ H Stp.refl S
def fbrk : DSt → Flow := fun s => .brk s
def fcnt : DSt → Flow := fun s => .cnt s
theorem s_break : DS X cl W (.Break pos) fbrk := ps_imp ps_break fun D σ H ⟨G, s, S, h⟩ => h G σ H Stp.refl S
theorem s_continue : DS X cl W (.Continue pos) fcnt := ps_imp ps_continue fun D σ H ⟨G, s, S, h⟩ => h G σ H Stp.refl S
def fnever : DSt → Flow := fun _ => .stuck
theorem s_never : DS X cl W st fnever := ps_imp ps_never fun D σ H ⟨G, s, S, h⟩ => h
def fDrop (f : M R) : DSt → Flow := fun s => onRes (f s) fun _ s' => .next s'
theorem s_expr (h : DE X cl W e f) (hs : swapsWith e none pos.line X.env = pure false := by rfl) : DS X cl W (.Expr e pos) (fDrop f) := by
  refine ps_imp (ps_expr h hs) fun D σ H ⟨G, s, S, h⟩ => ⟨G, s, S, out_mono (fout_res h) fun r G1 s1 H1 st1 S1 k v rr => ?_⟩
  exact k G1 σ H1 st1 S1
def fRet (f : M R) : DSt → Flow := fun s => onRes (f s) fun r s' => .ret r s'
theorem s_ret (h : DE X cl W e f) : DS X cl W (.Return (some e) pos) (fRet f) := by
  refine ps_imp (ps_ret h) fun D σ H ⟨G, s, S, h⟩ => ⟨G, s, S, out_mono (fout_res h) fun r G1 s1 H1 st1 S1 k v rr => ?_⟩
  exact k v G1 σ H1 st1 S1 rr
def fRetN : DSt → Flow := fun s => .ret (.val .none) s
theorem s_retN : DS X cl W (.Return none pos) fRetN := ps_imp ps_retN fun D σ H ⟨G, s, S, h⟩ => h _ G σ H Stp.refl S .non
def fIfS (c : M Bool) (p q : DSt → Flow) : DSt → Flow := fun s => onRes (c s) fun b s' => if b then p s' else q s'
theorem s_if {c : Expr} {t : M Bool} {as bs : List Stmt} (hc : DT X cl W c t) (ha : DSs X cl W as p) (hb : DSs X cl W bs q) : DS X cl W (.If c as bs pos) (fIfS t p q) := by
  refine ps_imp (ps_if hc ha hb) fun D σ H ⟨G, s, S, h⟩ => ⟨G, s, S, out_mono (fout_res h) fun b G1 s1 H1 st1 S1 k => ?_⟩
  cases b with
  | true => exact ⟨G1, s1, S1, fout_shift st1 k⟩
  | false => exact ⟨G1, s1, S1, fout_shift st1 k⟩
def fSet (i : Nat) (f : M R) : DSt → Flow := fun s => onRes (f s) fun r s' => if i < s'.d.length then match store i r s' with
  | some s2 => .next s2
  | none => .stuck
  else .stuck
theorem set_reads {i : Nat} {D : Ends} {σ : L2.St} {H : Hp} {K : PySem.W.Frag} (q : tS K cl W (fSet i f) D σ H) : tAsg (tD K cl W f) (gName i) D σ H := by
  obtain ⟨G, s, S, h⟩ := q
  refine ⟨G, s, S, out_mono (fout_res h) fun r G1 s1 H1 st1 S1 k v rr => ?_⟩
  split at k
  · rename_i hi
    split at k
    · rename_i s2 e
      obtain ⟨G2, st2, S2, _⟩ := store_good S1 st1 rr hi e
      exact k G2 _ H1 st2 S2
    · exact k.elim
  · exact k.elim
theorem s_set {i : Nat} {x : Str} {pos' : Pos} (hN : X.N.Nodup) (hi : X.N[i]? = some x) (hx : Loc X.env.scope x) (he : DE X cl W e f) (hs : swapsWith e (some (.Name x pos')) pos.line X.env = pure false := by rfl) (hf : X.fn x = true ∨ X.env.scope.names.lookup x = some .local := by first | exact .inl rfl | exact .inr rfl | assumption) :
    DS X cl W (.Assign [.Name x pos'] e pos) (fSet i f) := ps_imp (ps_set hN hi hx he hs hf) fun D σ H q => set_reads q
end
end DL

/-! DL7: targets, what is walked, loops, comprehensions -/
noncomputable section
namespace DL
open PySem L2 PyProof.Rows
open Evl (Ex)
/-! ### targets -/
abbrev Bd := PyData → DSt → Option DSt
/-- a target stores data: js are its slots -/
def GOk (K : PySem.W.Frag) (g : TG) (b : Bd) (js : List Nat) : Prop := ∀ (x : V) (d : PyData) (G : Hp) (s : DSt) (σ : L2.St) (H : Hp) (s' : DSt) (Q : L2.St → Hp → Prop), SA K G s σ H → Rp K G x d → b d s = some s' →
  (∀ σ', σ'.length = σ.length → (∀ i, i ∉ js → σ'[i]? = σ[i]?) → (∀ i : Nat, i ∉ js → s'.d[i]? = s.d[i]?) → s'.w = s.w → Stp G s σ H G s' σ' H → SA K G s' σ' H → Q σ' H) → g x σ H Q
def bName (i : Nat) : Bd := fun d s => if i < s.d.length then some (putS i (.val d) s) else none
theorem g_name {K : PySem.W.Frag} (i : Nat) : GOk K (gName i) (bName i) [i] := by
  intro x d G s σ H s' Q S rp e k
  unfold bName at e
  split at e
  · rename_i hi
    cases e
    refine k _ (by simp) (fun j hj => ?_) (fun j hj => ?_) rfl (put_stp S Stp.refl hi (by intro _ _ z; cases z)) (put_ok S hi ⟨x, rfl, rp⟩ (by intro _ _ z; cases z))
    · rw [List.getElem?_set_ne (fun z => hj (by simp [z]))]
    · simp only [putS]
      rw [List.getElem?_set_ne (fun z => hj (by simp [z]))]
  · cases e
abbrev Bds := List PyData → DSt → Option DSt
def GsOk (K : PySem.W.Frag) (g : TGs) (b : Bds) (js : List Nat) : Prop := ∀ (xs : List V) (ds : List PyData) (G : Hp) (s : DSt) (σ : L2.St) (H : Hp) (s' : DSt) (Q : L2.St → Hp → Prop), SA K G s σ H → RpAll K G xs ds → b ds s = some s' →
  (∀ σ', σ'.length = σ.length → (∀ i, i ∉ js → σ'[i]? = σ[i]?) → (∀ i : Nat, i ∉ js → s'.d[i]? = s.d[i]?) → s'.w = s.w → Stp G s σ H G s' σ' H → SA K G s' σ' H → Q σ' H) → g xs σ H Q
def bNil : Bds := fun ds s => match ds with
  | [] => some s
  | _ => none
def bCons (b : Bd) (bs : Bds) : Bds := fun ds s => match ds with
  | d :: r => match b d s with
    | some s' => bs r s'
    | none => none
  | [] => none
theorem g_nil {K : PySem.W.Frag} : GsOk K gNil bNil [] := by
  intro xs ds G s σ H s' Q S rp e k
  unfold bNil at e
  split at e
  · cases e
    cases rp
    exact ⟨rfl, k σ rfl (fun _ _ => rfl) (fun _ _ => rfl) rfl Stp.refl S⟩
  · cases e
theorem g_cons {K : PySem.W.Frag} {g : TG} {gs : TGs} {b : Bd} {bs : Bds} {js ks : List Nat} (h1 : GOk K g b js) (h2 : GsOk K gs bs ks) : GsOk K (gCons g gs) (bCons b bs) (js ++ ks) := by
  intro xs ds G s σ H s' Q S rp e k
  unfold bCons at e
  split at e
  · rename_i d r
    split at e
    · rename_i s1 e1
      cases rp with
      | cons rp1 rp2 =>
        refine ⟨_, _, rfl, h1 _ d G s σ H s1 _ S rp1 e1 fun σ1 l1 n1 m1 w1 st1 S1 => ?_⟩
        refine h2 _ r G s1 σ1 H s' _ S1 rp2 e fun σ2 l2 n2 m2 w2 st2 S2 => ?_
        exact k σ2 (l2.trans l1) (fun i hi => (n2 i fun z => hi (List.mem_append_right _ z)).trans (n1 i fun z => hi (List.mem_append_left _ z))) (fun i hi => (m2 i fun z => hi (List.mem_append_right _ z)).trans (m1 i fun z => hi (List.mem_append_left _ z))) (w2.trans w1) (st1.trans st2) S2
    · cases e
  · cases e
def bTup (n : Nat) (bs : Bds) : Bd := fun d s => match d with
  | .tuple ds => if ds.length = n then bs ds s else none
  | _ => none
theorem g_tup {K : PySem.W.Frag} {n : Nat} {gs : TGs} {bs : Bds} {js : List Nat} (h : GsOk K gs bs js) : GOk K (gTup K n gs) (bTup n bs) js := by
  intro x d G s σ H s' Q S rp e k
  unfold bTup at e
  split at e
  · split at e
    · rename_i ds hl
      cases rp with
      | tup hs ha => exact ⟨_, _, rfl, Evl.ex_t S.gh hs, by rw [dps_len ha]; exact hl, h _ ds G s σ H s' Q S ha e k⟩
    · cases e
  · cases e
def bUnl (n : Nat) (bs : Bds) : Bd := fun d s => match d with
  | .list ds => if ds.length = n then bs ds s else none
  | _ => none
theorem g_unl {K : PySem.W.Frag} {n : Nat} {gs : TGs} {bs : Bds} {js : List Nat} (h : GsOk K gs bs js) : GOk K (gUnl K n gs) (bUnl n bs) js := by
  intro x d G s σ H s' Q S rp e k
  unfold bUnl at e
  split at e
  · split at e
    · rename_i ds hl
      cases rp with
      | lst hs ha => exact ⟨_, _, rfl, .of (S.gh _ _ hs), by rw [dps_len ha]; exact hl, h _ ds G s σ H s' Q S ha e k⟩
    · cases e
  · cases e

/-! ### what is walked -/
def ItOk (K : PySem.W.Frag) (J : It) (ds : List PyData) (G : Hp) : Prop := ∀ (G' : Hp) (s' : DSt) (σ' : L2.St) (H' : Hp), Ex G G' → SA K G' s' σ' H' → ∀ i,
  (∀ d, ds[i]? = some d → J.go i H' ∧ ∀ x H2, J.yld i H' x H2 → ∃ G2, Stp G' s' σ' H' G2 s' σ' H2 ∧ SA K G2 s' σ' H2 ∧ Rp K G2 x d) ∧ (ds.length ≤ i → J.stop i H')
def tI (K : PySem.W.Frag) (cl : String → Addr) (W : WX) (f : M (List PyData)) : TI := fun σ H R => ∃ G s, SA K G s σ H ∧ Out K cl W G s σ H (f s) fun ds G' s' H' => ∀ J, ItOk K J ds G' → R J H'
section
variable {X : Cx} {cl : String → Addr} {W : WX} {e a b c tg iter : Expr} {es : List Expr} {f g : M R} {fs : M (List R)} {fi : M (List PyData)} {pos : Pos}
abbrev DI (X : Cx) (cl : String → Addr) (W : WX) (tg e : Expr) (f : M (List PyData)) : Prop := PI X tg e (tI X.K cl W f)
theorem pi_imp {t t' : TI} (h : PI X tg e t) (i : ∀ σ H R, t' σ H R → t σ H R) : PI X tg e t' := ⟨fun pins s σ H R I q => h.run pins s σ H R I (i σ H R q)⟩
theorem it_list {K : PySem.W.Frag} {G : Hp} {a : Addr} {xs : List V} {ds : List PyData} (h : G a = some (.lst xs)) (hd : RpAll K G xs ds) (uq : ∀ (G' : Hp) (s' : DSt) (σ' : L2.St) (H' : Hp), Ex G G' → SA K G' s' σ' H' → H' a = some (.lst xs)) : ItOk K (Itl K a) ds G := by
  intro G' s' σ' H' ex S i
  have hH := uq G' s' σ' H' ex S
  refine ⟨fun d e => ?_, fun hl => ⟨xs, .of hH, by rw [dps_len hd]; exact hl⟩⟩
  have hi : i < xs.length := by rw [dps_len hd]; exact (List.getElem?_eq_some_iff.mp e).1
  refine ⟨⟨xs, xs[i], .of hH, by simp [hi]⟩, fun x H2 ⟨e2, y⟩ => ?_⟩
  subst e2
  obtain ⟨d', e', r⟩ := dps_get hd (y xs (.of hH))
  rw [e] at e'
  cases e'
  exact ⟨G', Stp.refl, S, dp_mono ex _ _ r⟩
theorem it_tup {K : PySem.W.Frag} {G : Hp} {a : Addr} {xs : List V} {ds : List PyData} (h : SqT K G a xs) (hd : RpAll K G xs ds) : ItOk K (Itt K a) ds G := by
  intro G' s' σ' H' ex S i
  have hH := Evl.ex_t S.gh (Evl.ex_t ex h)
  refine ⟨fun d e => ?_, fun hl => ⟨xs, hH, by rw [dps_len hd]; exact hl⟩⟩
  have hi : i < xs.length := by rw [dps_len hd]; exact (List.getElem?_eq_some_iff.mp e).1
  refine ⟨⟨xs, xs[i], hH, by simp [hi]⟩, fun x H2 ⟨e2, y⟩ => ?_⟩
  subst e2
  obtain ⟨d', e', r⟩ := dps_get hd (y xs hH)
  rw [e] at e'
  cases e'
  exact ⟨G', Stp.refl, S, dp_mono ex _ _ r⟩
/-- a list or a tuple, walked -/
def iSeq (K : PySem.W.Frag) (tl : TE) : TI := fun σ H R => tl σ H fun x H1 => (∃ a, x = .ref a ∧ (∃ xs, SqL K H1 a xs) ∧ R (Itl K a) H1) ∨ ∃ a, x = .ref a ∧ (∃ xs, SqT K H1 a xs) ∧ R (Itt K a) H1
theorem pi_seq {l : Expr} {tl : TE} (hl : PE X l tl) : PI X tg l (iSeq X.K tl) := by
  refine ⟨fun pins s σ H R I h => ?_⟩
  refine thn (hl.run pins s σ H _ I h) fun v s1 ⟨x, H1, I1, r1, q1⟩ => ?_
  rcases q1 with ⟨a, e, ⟨xs, hq⟩, q⟩ | ⟨a, e, ⟨xs, hq⟩, q⟩
  · subst e
    cases r1
    obtain ⟨its, rv, p, hz⟩ := I1.list hq
    refine wpAny_pyIter_list p.isList ?_
    refine ⟨s1.heap.objs.size, [s1.heap.objs.size], _, _, H1, rfl, I1.kept (t' := s1.toks) fun b o e => Heap.get?_push_of_some _ e, turn_list a _, ⟨_, Heap.get?_push_size _ rfl, rfl, rfl⟩, fun b hb => ?_, q⟩
    have e : b = s1.heap.objs.size := by simpa using hb
    subst e
    exact I1.fpOk (Nat.le_refl _) (I1.hok.fresh (Nat.le_refl _))
  · subst e
    cases r1
    obtain ⟨its, rv, p, hz⟩ := I1.tuple hq
    refine wpAny_pyIter_tuple (show s1.heap.IsTuple a its.toArray from p) ?_
    refine ⟨s1.heap.objs.size, [s1.heap.objs.size], _, _, H1, rfl, I1.kept (t' := s1.toks) fun b o e => Heap.get?_push_of_some _ e, turn_tuple a _, ⟨_, Heap.get?_push_size _ rfl, rfl, rfl⟩, fun b hb => ?_, q⟩
    have e : b = s1.heap.objs.size := by simpa using hb
    subst e
    exact I1.fpOk (Nat.le_refl _) (I1.hok.fresh (Nat.le_refl _))
def fLstI (f : M R) : M (List PyData) := bnd f fun r => bnd (fEsc r) fun r' s => match r' with
  | .val (.list ds) => .ok ds s
  | .val (.tuple ds) => .ok ds s
  | _ => .stuck
theorem i_list (h : DE X cl W e f) : DI X cl W tg e (fLstI f) := by
  refine pi_imp (pi_seq h) fun σ H R ⟨G, s, S, q⟩ => ?_
  refine ⟨G, s, S, out_mono (out_esc q) fun r G1 s1 H1 st1 S1 k v rr => ?_⟩
  obtain ⟨G2, s2, r2, st2, S2, ar, ex, k2⟩ := k v rr
  split at k2
  · rename_i ds
    cases (show Rp X.K G2 v (.list ds) from ar) with
    | lst hs ha => exact .inl ⟨_, rfl, ⟨_, .of (S2.gh _ _ hs)⟩, k2 G2 H1 Stp.refl S2 _ (it_list hs ha fun G' s' σ' H' ex' S' => S'.gh _ _ (ex' _ _ hs))⟩
  · rename_i ds
    cases (show Rp X.K G2 v (.tuple ds) from ar) with
    | tup hs ha => exact .inr ⟨_, rfl, ⟨_, Evl.ex_t S2.gh hs⟩, k2 G2 H1 Stp.refl S2 _ (it_tup hs ha)⟩
  · exact k2.elim
def fTupI (f : M R) : M (List PyData) := bnd f fun r s => match look r s with
  | some (.tuple ds) => .ok ds s
  | _ => .stuck
theorem i_tup (h : DE X cl W e f) : DI X cl W tg e (fTupI f) := by
  refine pi_imp (pi_tup h) fun σ H R ⟨G, s, S, q⟩ => ?_
  refine ⟨G, s, S, out_mono (out_bind q) fun r G1 s1 H1 st1 S1 k v rr => ?_⟩
  split at k
  · rename_i ds e
    have hd := look_q S1 rr e
    cases (show Rp X.K G1 v (.tuple ds) from hd) with
    | tup hs ha => exact ⟨_, rfl, ⟨_, Evl.ex_t S1.gh hs⟩, k G1 H1 Stp.refl S1 _ (it_tup hs ha)⟩
  · exact k.elim
def rangeD (lo : Int) (n : Nat) : List PyData := (List.range n).map fun (k : Nat) => PyData.int (lo + (k : Int))
theorem it_range {K : PySem.W.Frag} {G : Hp} {lo : Int} {n : Nat} : ItOk K (Itr lo n) (rangeD lo n) G := by
  intro G' s' σ' H' ex S i
  refine ⟨fun d e => ?_, fun hl => show n ≤ i by simpa [rangeD] using hl⟩
  have hi : i < n := by have := (List.getElem?_eq_some_iff.mp e).1; simpa [rangeD] using this
  have e2 : d = .int (lo + (i : Int)) := by simp [rangeD, hi] at e; exact e.symm
  subst e2
  exact ⟨hi, fun x H2 ⟨e1, e3⟩ => by subst e1 e3; exact ⟨G', Stp.refl, S, .int _⟩⟩
def fRng1 (fs : M (List R)) : M (List PyData) := bnd fs fun rs s => match rs with
  | [r] => match look r s with
    | some (.int j) => if inB j then .ok (rangeD 0 j.toNat) s else .stuck
    | _ => .stuck
  | _ => .stuck
theorem i_range1 {p pos : Pos} (hg : Gl X "range") (hm : X.mg "range" = none) (ha : DA X cl W [a] fs) (hs : starEach [a] X.env = [(false, eval a X.env)] := by rfl) : DI X cl W tg (.Call (.Name "range" p) [a] [] pos) (fRng1 fs) := by
  refine pi_imp (pi_range1 hg hm ha hs) fun σ H R ⟨G, s, S, q⟩ => ?_
  refine ⟨G, s, S, out_mono (out_bind q) fun rs G1 s1 H1 st1 S1 k vs rr => ?_⟩
  split at k
  · rename_i r
    split at k
    · rename_i j e
      split at k
      · rename_i hb
        cases rr with
        | cons r1 r2 =>
          cases r2
          obtain rfl := dq_int (look_q S1 r1 e)
          exact ⟨j, rfl, hb.1, hb.2, k G1 H1 Stp.refl S1 _ it_range⟩
      · exact k.elim
    · exact k.elim
  · exact k.elim
def fRng2 (fs : M (List R)) : M (List PyData) := bnd fs fun rs s => match rs with
  | [r, r2] => match look r s, look r2 s with
    | some (.int i), some (.int j) => if inB i ∧ inB j then .ok (rangeD i (j - i).toNat) s else .stuck
    | _, _ => .stuck
  | _ => .stuck
theorem i_range2 {p pos : Pos} (hg : Gl X "range") (hm : X.mg "range" = none) (ha : DA X cl W [a, b] fs) (hs : starEach [a, b] X.env = [(false, eval a X.env), (false, eval b X.env)] := by rfl) (hs2 : starEach [b] X.env = [(false, eval b X.env)] := by rfl) :
    DI X cl W tg (.Call (.Name "range" p) [a, b] [] pos) (fRng2 fs) := by
  refine pi_imp (pi_range2 hg hm ha hs hs2) fun σ H R ⟨G, s, S, q⟩ => ?_
  refine ⟨G, s, S, out_mono (out_bind q) fun rs G1 s1 H1 st1 S1 k vs rr => ?_⟩
  split at k
  · split at k
    · rename_i i j e1 e2
      split at k
      · rename_i hb
        cases rr with
        | cons r1 r2 =>
          cases r2 with
          | cons r2 r3 =>
            cases r3
            obtain rfl := dq_int (look_q S1 r1 e1)
            obtain rfl := dq_int (look_q S1 r2 e2)
            exact ⟨i, j, rfl, ⟨hb.1.1, hb.1.2, hb.2.1, hb.2.2⟩, k G1 H1 Stp.refl S1 _ it_range⟩
      · exact k.elim
    · exact k.elim
  · exact k.elim
/-- enumerate(list) -/
def enumD (ds : List PyData) : List PyData := ds.zipIdx.map fun p => .tuple [.int (p.2 : Int), p.1]
theorem it_enum {K : PySem.W.Frag} {G : Hp} {a : Addr} {xs : List V} {ds : List PyData} (h : G a = some (.lst xs)) (hd : RpAll K G xs ds) : ItOk K (Ite K a) (enumD ds) G := by
  intro G' s' σ' H' ex S i
  have hH : H' a = some (.lst xs) := S.gh _ _ (ex _ _ h)
  refine ⟨fun d e => ?_, fun hl => ⟨xs, .of hH, by rw [dps_len hd]; simpa [enumD] using hl⟩⟩
  have hi : i < ds.length := by have := (List.getElem?_eq_some_iff.mp e).1; simpa [enumD] using this
  have hx : i < xs.length := by rw [dps_len hd]; exact hi
  have e2 : d = .tuple [.int (i : Int), ds[i]] := by
    simp [enumD, hi] at e
    exact e.symm
  subst e2
  refine ⟨⟨xs, xs[i], .of hH, by simp [hx]⟩, fun x H2 ⟨T, y, e3, hT, e4, hy⟩ => ?_⟩
  subst e3 e4
  obtain ⟨d', e', r⟩ := dps_get hd (hy xs (.of hH))
  have e5 : d' = ds[i] := by rw [List.getElem?_eq_getElem hi] at e'; exact (Option.some.inj e').symm
  subst e5
  obtain ⟨st, S2⟩ := new_known (.tup [.int (i : Nat), y]) S hT
  exact ⟨_, st, S2, .tup (.of upd_same) (.cons (.int _) (.cons (dp_mono (ex.trans st.ex) _ _ r) .nil))⟩
def fEnum (fs : M (List R)) : M (List PyData) := bnd fs fun rs s => match rs with
  | [.val (.list ds)] => .ok (enumD ds) s
  | _ => .stuck
theorem i_enum {p pos tpos : Pos} {elts : List Expr} {kk : Nat} (hg : Gl X "enumerate") (hm : X.mg "enumerate" = none) (ha : DAe X cl W [e] fs) (hs : starEach [e] X.env = [(false, eval e X.env)] := by rfl) :
    DI X cl W (.Tuple elts kk tpos) (.Call (.Name "enumerate" p) [e] [] pos) (fEnum fs) := by
  refine pi_imp (pi_enum hg hm ha hs) fun σ H R ⟨G, s, S, q⟩ => ?_
  refine ⟨G, s, S, out_mono (out_bind q) fun rs G1 s1 H1 st1 S1 k vs rr => ?_⟩
  split at k
  · rename_i ds
    cases rr with
    | cons r1 r2 =>
      cases r2
      cases (show Rp X.K G1 _ (.list ds) from r1) with
      | lst h ha => exact ⟨_, _, rfl, .of (S1.gh _ _ h), k G1 H1 Stp.refl S1 _ (it_enum h ha)⟩
  · exact k.elim
/-- zip(list, list) -/
def zipD (ds es : List PyData) : List PyData := (ds.zip es).map fun p => .tuple [p.1, p.2]
theorem it_zip {K : PySem.W.Frag} {G : Hp} {a b : Addr} {xs ys : List V} {ds es : List PyData} (h : G a = some (.lst xs)) (hd : RpAll K G xs ds) (h2 : G b = some (.lst ys)) (hd2 : RpAll K G ys es) : ItOk K (Itz K a b) (zipD ds es) G := by
  intro G' s' σ' H' ex S i
  have hH : H' a = some (.lst xs) := S.gh _ _ (ex _ _ h)
  have hH2 : H' b = some (.lst ys) := S.gh _ _ (ex _ _ h2)
  refine ⟨fun d e => ?_, fun hl => ⟨xs, ys, .of hH, .of hH2, ?_⟩⟩
  · have hi : i < ds.length ∧ i < es.length := by have := (List.getElem?_eq_some_iff.mp e).1; simp [zipD] at this; omega
    have hx : i < xs.length := by rw [dps_len hd]; exact hi.1
    have hy : i < ys.length := by rw [dps_len hd2]; exact hi.2
    have e2 : d = .tuple [ds[i], es[i]] := by
      have hz : i < (ds.zip es).length := by simp; omega
      simp only [zipD, List.getElem?_map, List.getElem?_eq_getElem hz, Option.map_some, List.getElem_zip] at e
      exact (Option.some.inj e).symm
    subst e2
    refine ⟨⟨xs, ys, xs[i], ys[i], .of hH, .of hH2, by simp [hx], by simp [hy]⟩, fun x H2 ⟨T, y, z, e3, hT, e4, q1, q2⟩ => ?_⟩
    subst e3 e4
    obtain ⟨d', e', r⟩ := dps_get hd (q1 xs (.of hH))
    obtain ⟨d2, e5, r2⟩ := dps_get hd2 (q2 ys (.of hH2))
    have e6 : d' = ds[i] := by rw [List.getElem?_eq_getElem hi.1] at e'; exact (Option.some.inj e').symm
    have e7 : d2 = es[i] := by rw [List.getElem?_eq_getElem hi.2] at e5; exact (Option.some.inj e5).symm
    subst e6 e7
    obtain ⟨st, S2⟩ := new_known (.tup [y, z]) S hT
    exact ⟨_, st, S2, .tup (.of upd_same) (.cons (dp_mono (ex.trans st.ex) _ _ r) (.cons (dp_mono (ex.trans st.ex) _ _ r2) .nil))⟩
  · rw [dps_len hd, dps_len hd2]
    simp [zipD] at hl
    omega
def fZip (fs : M (List R)) : M (List PyData) := bnd fs fun rs s => match rs with
  | [.val (.list ds), .val (.list es)] => .ok (zipD ds es) s
  | _ => .stuck
theorem i_zip {e2 : Expr} {p pos tpos : Pos} {elts : List Expr} {kk : Nat} (hg : Gl X "zip") (hm : X.mg "zip" = none) (ha : DAe X cl W [e, e2] fs) (h : ∀ {ta : TA}, PA X [e, e2] ta → PI X (.Tuple elts kk tpos) (.Call (.Name "zip" p) [e, e2] [] pos) (iZip X.K ta) := by intro ta h; exact pi_zip (by rfl) (by assumption) h) :
    DI X cl W (.Tuple elts kk tpos) (.Call (.Name "zip" p) [e, e2] [] pos) (fZip fs) := by
  refine pi_imp (h ha) fun σ H R ⟨G, s, S, q⟩ => ?_
  refine ⟨G, s, S, out_mono (out_bind q) fun rs G1 s1 H1 st1 S1 k vs rr => ?_⟩
  split at k
  · rename_i ds es
    cases rr with
    | cons r1 r2 =>
      cases r2 with
      | cons r2 r3 =>
        cases r3
        cases (show Rp X.K G1 _ (.list ds) from r1) with
        | lst h ha =>
          cases (show Rp X.K G1 _ (.list es) from r2) with
          | lst h' ha' => exact ⟨_, _, _, _, rfl, .of (S1.gh _ _ h), .of (S1.gh _ _ h'), k G1 H1 Stp.refl S1 _ (it_zip h ha h' ha')⟩
  · exact k.elim
end
end DL

/-! DL8: loops, comprehensions -/
noncomputable section
namespace DL
open PySem L2 PyProof.Rows
open Evl (Ex)
def loopF (b : Bd) (p : DSt → Flow) : List PyData → DSt → Flow
  | [], s => .next s
  | d :: ds, s => match b d s with
    | none => .stuck
    | some s1 => match p s1 with
      | .next s2 => loopF b p ds s2
      | .cnt s2 => loopF b p ds s2
      | .brk s2 => .next s2
      | .ret r s2 => .ret r s2
      | .err x s2 => .err x s2
      | .stuck => .stuck
def fFor (fi : M (List PyData)) (b : Bd) (p : DSt → Flow) : DSt → Flow := fun s => onRes (fi s) fun ds s' => loopF b p ds s'
def whileF (c : M Bool) (p : DSt → Flow) : Nat → DSt → Flow
  | 0, _ => .stuck
  | n + 1, s => onRes (c s) fun t s1 => if t then match p s1 with
      | .next s2 => whileF c p n s2
      | .cnt s2 => whileF c p n s2
      | .brk s2 => .next s2
      | .ret r s2 => .ret r s2
      | .err x s2 => .err x s2
      | .stuck => .stuck
    else .next s1
section
variable {X : Cx} {cl : String → Addr} {W : WX} {e a b c tg iter : Expr} {es : List Expr} {f g : M R} {fs : M (List R)} {fi : M (List PyData)} {pos : Pos} {p q : DSt → Flow}
theorem s_for {body : List Stmt} {gg : TG} {bd : Bd} {js : List Nat} (hp : PassesOwn (model X.prog X.w) X.A X.env X.xe) (hc : X.calm = true) (hi : DI X cl W tg iter fi) (hg : PG X tg gg) (ho : GOk X.K gg bd js) (hb : DSs X cl W body p)
    (hs : ∀ x, foldedSetIterable iter X.env x = pure x := by intro _; rfl) : DS X cl W (.For tg iter body [] pos) (fFor fi bd p) := by
  refine ps_imp (ps_for hp hc hi hg hb hs) fun D σ H ⟨G, s, S, h⟩ => ⟨G, s, S, out_mono (fout_res h) fun ds G1 s1 H1 st1 S1 k J hJ => ?_⟩
  have k := fout_shift st1 k
  refine ⟨fun i m σ2 H2 => ∃ G2 s2, SA X.K G2 s2 σ2 H2 ∧ Ex G1 G2 ∧ m = ds.length - i ∧ i ≤ ds.length ∧ FOut X.K cl W G2 s2 σ2 H2 (loopF bd p (ds.drop i) s2) D, ⟨ds.length, G1, s1, S1, Ex.refl G1, by simp, Nat.zero_le _, by simpa using k⟩, ?_⟩
  rintro i m σ2 H2 ⟨G2, s2, S2, ex2, rfl, hi, k2⟩
  obtain ⟨j1, j2⟩ := hJ G2 s2 σ2 H2 ex2 S2 i
  by_cases hl : i < ds.length
  · obtain ⟨go, yl⟩ := j1 ds[i] (List.getElem?_eq_getElem hl)
    rw [List.drop_eq_getElem_cons hl] at k2
    refine .inr ⟨go, fun σ3 H3 => ∃ G3 s3, SA X.K G3 s3 σ3 H3 ∧ Ex G1 G3 ∧ FOut X.K cl W G3 s3 σ3 H3 (loopF bd p (ds.drop (i + 1)) s3) D, fun σ3 H3 ⟨G3, s3, S3, ex3, k3⟩ => ⟨ds.length - (i + 1), by omega, G3, s3, S3, ex3, rfl, hl, k3⟩, fun x H3 y => ?_⟩
    obtain ⟨G3, st3, S3, rp⟩ := yl x H3 y
    unfold loopF at k2
    cases q : bd ds[i] s2 with
    | none => rw [q] at k2; exact k2.elim
    | some s4 =>
      rw [q] at k2
      refine ho x ds[i] G3 s2 σ2 H3 s4 _ S3 rp q fun σ4 l4 n4 m4 w4 st4 S4 => ⟨G3, s4, S4, ?_⟩
      have st34 := st3.trans st4
      have k2 := fout_shift st34 k2
      have ex4 := ex2.trans st34.ex
      dsimp only at k2 ⊢
      cases z : p s4 with
      | next s5 => rw [z] at k2; exact fun G5 σ5 H5 st5 S5 => ⟨G5, s5, S5, ex4.trans st5.ex, fout_shift st5 k2⟩
      | cnt s5 => rw [z] at k2; exact fun G5 σ5 H5 st5 S5 => ⟨G5, s5, S5, ex4.trans st5.ex, fout_shift st5 k2⟩
      | brk s5 => rw [z] at k2; exact fun G5 σ5 H5 st5 S5 => k2 G5 σ5 H5 st5 S5
      | ret r s5 => rw [z] at k2; exact k2
      | err x s5 => rw [z] at k2; exact k2
      | stuck => rw [z] at k2; exact k2
  · have e : i = ds.length := by omega
    subst e
    rw [List.drop_length] at k2
    exact .inl ⟨j2 (Nat.le_refl _), k2 G2 σ2 H2 Stp.refl S2⟩
theorem s_while {body : List Stmt} {t : M Bool} (n : Nat) (hp : PassesOwn (model X.prog X.w) X.A X.env X.xe) (hc : DT X cl W c t) (hb : DSs X cl W body p) : DS X cl W (.While c body [] pos) (whileF t p n) := by
  refine ps_imp (ps_while hp hc hb) fun D σ H ⟨G, s, S, h⟩ => ?_
  refine ⟨fun m σ2 H2 => ∃ G2 s2, SA X.K G2 s2 σ2 H2 ∧ FOut X.K cl W G2 s2 σ2 H2 (whileF t p m s2) D, ⟨n, G, s, S, h⟩, ?_⟩
  rintro m σ2 H2 ⟨G2, s2, S2, k2⟩
  cases m with
  | zero => exact k2.elim
  | succ m =>
    refine ⟨G2, s2, S2, out_mono (fout_res k2) fun b G3 s3 H3 st3 S3 k3 => ?_⟩
    have k3 := fout_shift st3 k3
    cases b with
    | false => exact k3 G3 σ2 H3 Stp.refl S3
    | true =>
      refine ⟨fun σ4 H4 => ∃ G4 s4, SA X.K G4 s4 σ4 H4 ∧ FOut X.K cl W G4 s4 σ4 H4 (whileF t p m s4) D, fun σ4 H4 ⟨G4, s4, S4, k4⟩ => ⟨m, Nat.lt_succ_self _, G4, s4, S4, k4⟩, G3, s3, S3, ?_⟩
      simp only [if_true] at k3
      cases z : p s3 with
      | next s5 => rw [z] at k3; exact fun G5 σ5 H5 st5 S5 => ⟨G5, s5, S5, fout_shift st5 k3⟩
      | cnt s5 => rw [z] at k3; exact fun G5 σ5 H5 st5 S5 => ⟨G5, s5, S5, fout_shift st5 k3⟩
      | brk s5 => rw [z] at k3; exact fun G5 σ5 H5 st5 S5 => k3 G5 σ5 H5 st5 S5
      | ret r s5 => rw [z] at k3; exact k3
      | err x s5 => rw [z] at k3; exact k3
      | stuck => rw [z] at k3; exact k3
/-- target = e by a pattern -/
def fAsgB (f : M R) (bd : Bd) : DSt → Flow := fun s => onRes (bnd f fEsc s) fun r s' => match r with
  | .val d => match bd d s' with
    | some s2 => .next s2
    | none => .stuck
  | _ => .stuck
theorem out_esc1 {K : PySem.W.Frag} {G : Hp} {s : DSt} {σ : L2.St} {H : Hp} {f : Res R} {k : R → Hp → DSt → Hp → Prop} (h : Out K cl W G s σ H (f.bind fEsc) k) :
    Out K cl W G s σ H f fun r G1 s1 H1 => ∀ v, RRel K H G1 s1 σ H1 v r → ∃ G2 s2 r2, Stp G s σ H G2 s2 σ H1 ∧ SA K G2 s2 σ H1 ∧ AR K G2 v r2 ∧ Ex G1 G2 ∧ esc r s1 = some (r2, s2) ∧ k r2 G2 s2 H1 := by
  cases f with
  | ok r s1 =>
    intro G1 H1 st S1 v rr
    have h : Out K cl W G s σ H (fEsc r s1) k := h
    unfold fEsc at h
    cases e : esc r s1 with
    | none => rw [e] at h; exact h.elim
    | some p =>
      obtain ⟨r2, s2⟩ := p
      rw [e] at h
      obtain ⟨G2, st2, S2, ex, ar⟩ := esc_ok S1 st rr e
      exact ⟨G2, s2, r2, st2, S2, ar, ex, rfl, h G2 H1 st2 S2⟩
  | err x s1 => exact h
  | stuck => exact h
theorem s_asgB {gg : TG} {bd : Bd} {js : List Nat} (he : DE X cl W e f) (hg : PG X tg gg) (ho : GOk X.K gg bd js) (hs : swapsWithSole [tg] e pos.line X.env = pure false := by rfl) (hw : swappedStores [tg] e X.env = pure none := by rfl)
    (h1 : (assignEach [tg] X.env).map (·.2) = [assign tg X.env] := by rfl) : DS X cl W (.Assign [tg] e pos) (fAsgB f bd) := by
  refine ps_imp (ps_asg he hg hs hw h1) fun D σ H ⟨G, s, S, h⟩ => ⟨G, s, S, ?_⟩
  have h' : Out X.K cl W G s σ H ((f s).bind fEsc) fun r G2 s2 H1 => ∀ v, AR X.K G2 v r → gg v σ H1 D.nx := by
    have h := fout_res h
    refine out_mono h fun r G1 s1 H1 st1 S1 k v ar => ?_
    split at k
    · rename_i d
      split at k
      · rename_i s2 e
        exact ho v d G1 s1 σ H1 s2 _ S1 ar e fun σ2 _ _ _ _ st2 S2 => k G1 σ2 H1 (st1.trans st2) S2
      · exact k.elim
    · exact k.elim
  refine out_mono (out_esc1 h') fun r G1 s1 H1 st1 S1 k v rr => ?_
  obtain ⟨G2, s2, r2, st2, S2, ar, ex, _, k2⟩ := k v rr
  exact k2 v ar

/-! ### comprehensions -/
/-- the slots at vs taken back from an elder state -/
def putBack (vs : List Nat) (old new : List Sl) : List Sl := vs.foldl (fun l v => l.set v (old.getD v .no)) new
def blank (vs : List Nat) (d : List Sl) : List Sl := vs.foldl (fun l v => l.set v .no) d
def noOwn (vs : List Nat) (d : List Sl) : Bool := vs.all fun v => match d[v]? with
  | some (.own _) => false
  | _ => true
def nerr {α : Type} (r : Res α) : Res α := match r with
  | .err _ _ => .stuck
  | r => r
def loopC (b : Bd) (ft : M Bool) (fe : M R) (vs : List Nat) : List PyData → List PyData → M (List PyData)
  | [], acc, s => .ok acc s
  | d :: ds, acc, s => if noOwn vs s.d then match b d { s with d := blank vs s.d } with
      | none => .stuck
      | some s1 => (nerr (ft s1)).bind fun t s2 => if t then (nerr (bnd fe fEsc s2)).bind fun r s3 => match r with
            | .val x => loopC b ft fe vs ds (acc ++ [x]) { s3 with d := putBack vs s.d s3.d }
            | _ => .stuck
          else loopC b ft fe vs ds acc { s2 with d := putBack vs s.d s2.d }
    else .stuck
def fLc (fi : M (List PyData)) (b : Bd) (ft : M Bool) (fe : M R) (vs : List Nat) : M R := bnd fi fun ds => bnd (fun s => if leS (ds.length) then loopC b ft fe vs ds [] s else .stuck) fun acc => ret (.new acc)
theorem blank_get (d : List Sl) (i : Nat) : ∀ vs : List Nat, (blank vs d)[i]? = if i ∈ vs then (if i < d.length then some .no else none) else d[i]? := by
  intro vs
  unfold blank
  induction vs generalizing d with
  | nil => simp
  | cons v vs ih =>
    rw [List.foldl_cons, ih]
    by_cases h : i ∈ vs
    · simp [h]
    · by_cases hv : i = v
      · subst hv; simp [h, List.getElem?_set]
      · simp [h, hv, List.getElem?_set_ne (Ne.symm hv)]
theorem blank_len (d : List Sl) : ∀ vs : List Nat, (blank vs d).length = d.length := by
  intro vs
  unfold blank
  induction vs generalizing d with
  | nil => rfl
  | cons v vs ih => rw [List.foldl_cons, ih]; simp
theorem back_len (old new : List Sl) : ∀ vs : List Nat, (putBack vs old new).length = new.length := by
  intro vs
  unfold putBack
  induction vs generalizing new with
  | nil => rfl
  | cons v vs ih => rw [List.foldl_cons, ih]; simp
theorem back_get (old new : List Sl) (i : Nat) : ∀ vs : List Nat, (putBack vs old new)[i]? = if i ∈ vs then (if i < new.length then some (old.getD i .no) else none) else new[i]? := by
  intro vs
  unfold putBack
  induction vs generalizing new with
  | nil => simp
  | cons v vs ih =>
    rw [List.foldl_cons, ih]
    by_cases h : i ∈ vs
    · simp [h]
    · by_cases hv : i = v
      · subst hv; simp [h, List.getElem?_set]
      · simp [h, hv, List.getElem?_set_ne (Ne.symm hv)]
theorem wipe_get (σ : L2.St) (i : Nat) : ∀ vs : List Nat, (wipe σ vs)[i]? = if i ∈ vs then (if i < σ.length then some none else none) else σ[i]? := by
  intro vs
  induction vs with
  | nil => simp [wipe]
  | cons v vs ih =>
    unfold wipe
    by_cases hv : i = v
    · subst hv
      simp [List.getElem?_set, wipe_length]
    · rw [List.getElem?_set_ne (Ne.symm hv), ih]
      simp [hv]
theorem wipe_same {σ σ' : L2.St} {vs : List Nat} (hl : σ'.length = σ.length) (h : ∀ i, i ∉ vs → σ'[i]? = σ[i]?) : wipe σ' vs = wipe σ vs := by
  apply List.ext_getElem?
  intro i
  rw [wipe_get, wipe_get, hl]
  by_cases q : i ∈ vs
  · simp [q]
  · simp [q, h i q]
theorem wipe_wipe (σ : L2.St) (vs : List Nat) : wipe (wipe σ vs) vs = wipe σ vs := wipe_same (wipe_length _ _) fun i hi => by rw [wipe_get]; simp [hi]
section
variable {K : PySem.W.Frag} {G H : Hp} {s : DSt} {σ : L2.St}
theorem own_blank {vs : List Nat} {i : Nat} {a : Addr} (h : OwnAt { s with d := blank vs s.d } (wipe σ vs) i a) : OwnAt s σ i a ∧ i ∉ vs := by
  obtain ⟨⟨ds, e⟩, h⟩ := h
  simp only [blank_get] at e
  by_cases q : i ∈ vs
  · rw [if_pos q] at e; split at e <;> cases e
  · rw [if_neg q] at e
    rw [wipe_get, if_neg q] at h
    exact ⟨⟨⟨ds, e⟩, h⟩, q⟩
theorem sa_blank (vs : List Nat) (S : SA K G s σ H) (hn : noOwn vs s.d = true) : Stp G s σ H G { s with d := blank vs s.d } (wipe σ vs) H ∧ SA K G { s with d := blank vs s.d } (wipe σ vs) H := by
  refine ⟨⟨Ex.refl G, fun a o h _ => ⟨h, rfl⟩, fun a z => .inl ?_, fun a h => h, fun a h => h⟩, ⟨by simp [blank_len, wipe_length, S.len], S.gh, fun i sl h => ?_, fun i j a h1 h2 => S.inj i j a (own_blank h1).1 (own_blank h2).1, fun i a h => S.ownG i a (own_blank h).1, S.pw, fun i a h => S.pne i a (own_blank h).1⟩⟩
  · rcases z with ⟨i, z⟩ | z
    · exact .inl ⟨i, (own_blank z).1⟩
    · exact .inr z
  · simp only [blank_get] at h
    by_cases q : i ∈ vs
    · rw [if_pos q] at h
      split at h
      · cases h; trivial
      · cases h
    · rw [if_neg q] at h
      rw [wipe_get, if_neg q]
      exact S.slot i sl h
/-- behind the block: the block's names as before it -/
theorem sa_back {G2 H2 : Hp} {s2 : DSt} {σ2 : L2.St} {vs : List Nat} (S : SA K G s σ H) (hn : noOwn vs s.d = true) (S2 : SA K G2 s2 σ2 H2) (ex : Ex G G2) (hw : wipe σ2 vs = wipe σ vs) :
    SA K G2 { s2 with d := putBack vs s.d s2.d } σ H2 ∧ ∀ a, Own { s2 with d := putBack vs s.d s2.d } σ a → Own s2 σ2 a := by
  have hl : σ2.length = σ.length := by rw [← wipe_length σ2 vs, hw, wipe_length]
  have hs : ∀ i, i ∉ vs → σ2[i]? = σ[i]? := fun i hi => by
    have := congrArg (fun l : L2.St => l[i]?) hw
    simp only [wipe_get, if_neg hi] at this
    exact this
  have ho : ∀ i a, OwnAt { s2 with d := putBack vs s.d s2.d } σ i a → OwnAt s2 σ2 i a := by
    rintro i a ⟨⟨ds, e⟩, h⟩
    simp only [back_get] at e
    by_cases q : i ∈ vs
    · rw [if_pos q] at e
      split at e
      · have e := Option.some.inj e
        have hn := List.all_eq_true.mp hn i q
        have e2 : s.d[i]? = some (.own ds) := by
          rw [List.getD_eq_getElem?_getD] at e
          cases z : s.d[i]? with
          | none => rw [z] at e; cases e
          | some o => rw [z] at e; simp at e; rw [e]
        rw [e2] at hn
        cases hn
      · cases e
    · rw [if_neg q] at e
      exact ⟨⟨ds, e⟩, by rw [hs i q]; exact h⟩
  refine ⟨⟨by simp [back_len, S2.len, hl], S2.gh, fun i sl h => ?_, fun i j a h1 h2 => S2.inj i j a (ho i a h1) (ho j a h2), fun i a h => S2.ownG i a (ho i a h), S2.pw, fun i a h => S2.pne i a (ho i a h)⟩, fun a z => ?_⟩
  · simp only [back_get] at h
    by_cases q : i ∈ vs
    · rw [if_pos q] at h
      split at h
      · have h := Option.some.inj h
        have hn := List.all_eq_true.mp hn i q
        rw [List.getD_eq_getElem?_getD] at h
        cases z : s.d[i]? with
        | none => rw [z] at h; simp at h; subst h; trivial
        | some o =>
          rw [z] at h
          simp at h
          subst h
          have sl := S.slot i _ z
          cases o with
          | no => trivial
          | val d => obtain ⟨v, e, hd⟩ := sl; exact ⟨v, e, dp_mono ex _ _ hd⟩
          | raw v => exact sl
          | ob o => obtain ⟨v, e, hd⟩ := sl; exact ⟨v, e, ob_mono ex hd⟩
          | own ds => rw [z] at hn; cases hn
      · cases h
    · rw [if_neg q] at h
      rw [← hs i q]
      exact S2.slot i sl h
  · rcases z with ⟨i, z⟩ | z
    · exact .inl ⟨i, ho i a z⟩
    · exact .inr z
end
theorem sa_write {K : PySem.W.Frag} {G H : Hp} {s : DSt} {σ : L2.St} {D : Addr} {o : HO} (S : SA K G s σ H) (hg : G D = none) (hn : ¬ Own s σ D) : SA K G s σ (upd H D o) := by
  refine ⟨S.len, fun a u h => ?_, fun i sl h => ?_, S.inj, S.ownG, ?_, S.pne⟩
  · rw [upd_ne fun z => by subst z; rw [hg] at h; cases h]; exact S.gh a u h
  · have q := S.slot i sl h
    cases sl with
    | no => trivial
    | val d => exact q
    | raw v => exact q
    | ob o => exact q
    | own es =>
      obtain ⟨a, xs, e, ha, hh⟩ := q
      refine ⟨a, xs, e, ?_, hh⟩
      rw [upd_ne fun z => hn (by
        subst z
        refine .inl ⟨i, ⟨es, h⟩, ?_⟩
        cases w : σ[i]? with
        | none => rw [w] at e; cases e
        | some o => rw [w] at e; simp at e; rw [e])]
      exact ha
  · have q := S.pw
    unfold PwOk at q ⊢
    split
    · trivial
    · rename_i pa ca cells t e
      rw [e] at q
      refine ⟨q.1, ?_, ?_, q.2.2.2⟩
      · rw [upd_ne fun z => hn (by subst z; exact .inr (by rw [e]; exact .inl rfl))]; exact q.2.1
      · rw [upd_ne fun z => hn (by subst z; exact .inr (by rw [e]; exact .inr rfl))]; exact q.2.2.1
/-- the reading of a comprehension -/
theorem lc_reads {K : PySem.W.Frag} {gg : TG} {bd : Bd} {js vs : List Nat} {ft : M Bool} {fe : M R} {fi : M (List PyData)} (ho : GOk K gg bd js) (hj : ∀ j ∈ js, j ∈ vs) {σ : L2.St} {H : Hp} {Q : VK} (q : tD K cl W (fLc fi bd ft fe vs) σ H Q) :
    tLc (tI K cl W fi) gg (tT K cl (fun _ _ _ _ => False) ft) (tD K cl (fun _ _ _ _ => False) fe) vs σ H Q := by
  obtain ⟨G, s, S, q⟩ := q
  refine ⟨G, s, S, out_mono (out_bind q) fun ds G1 s1 H1 st1 S1 k J hJ D hD => ?_⟩
  have k : Out K cl W G1 s1 σ H1 (if leS (ds.length) then loopC bd ft fe vs ds [] s1 else .stuck) _ := out_bind k
  by_cases hz : leS ds.length
  rotate_left
  · rw [if_neg hz] at k; exact k.elim
  rw [if_pos hz] at k
  have hz : ds.length ≤ sizeLine := hz
  obtain ⟨stD, SD, rrD⟩ := new_list (ds := []) S1 hD .nil st1.dom
  obtain ⟨aD, xD, eD, _, _, gD, _, nD⟩ := rrD
  cases eD
  refine ⟨fun i m H2 => ∃ G2 s2 acc accv, SA K G2 s2 σ H2 ∧ Stp G1 s1 σ H1 G2 s2 σ H2 ∧ H2 D = some (.lst accv) ∧ RpAll K G2 accv acc ∧ G2 D = none ∧ ¬ Own s2 σ D ∧ acc.length ≤ i ∧ m = ds.length - i ∧ i ≤ ds.length ∧
      Out K cl W G1 s1 σ H1 (loopC bd ft fe vs (ds.drop i) acc s2) _, ⟨ds.length, G1, s1, [], [], SD, stD, upd_same, .nil, gD, nD, Nat.le_refl _, by simp, Nat.zero_le _, by simpa using k⟩, ?_⟩
  rintro i m H2 ⟨G2, s2, acc, accv, S2, st2, hD2, hacc, gD2, nD2, hla, rfl, hi, k2⟩
  obtain ⟨j1, j2⟩ := hJ G2 s2 σ H2 st2.ex S2 i
  by_cases hl : i < ds.length
  · obtain ⟨go, yl⟩ := j1 ds[i] (List.getElem?_eq_getElem hl)
    rw [List.drop_eq_getElem_cons hl] at k2
    unfold loopC at k2
    refine .inr ⟨go, fun H3 => ∃ G3 s3 acc accv, SA K G3 s3 σ H3 ∧ Stp G1 s1 σ H1 G3 s3 σ H3 ∧ H3 D = some (.lst accv) ∧ RpAll K G3 accv acc ∧ G3 D = none ∧ ¬ Own s3 σ D ∧ acc.length ≤ i + 1 ∧
      Out K cl W G1 s1 σ H1 (loopC bd ft fe vs (ds.drop (i + 1)) acc s3) _, fun H3 ⟨G3, s3, acc, accv, a1, a2, a3, a4, a5, a6, a7, a8⟩ => ⟨ds.length - (i + 1), by omega, G3, s3, acc, accv, a1, a2, a3, a4, a5, a6, a7, rfl, hl, a8⟩, fun x H3 y => ?_⟩
    by_cases hn : noOwn vs s2.d = true
    rotate_left
    · rw [if_neg hn] at k2; exact k2.elim
    rw [if_pos hn] at k2
    obtain ⟨stB, SB⟩ := sa_blank vs S2 hn
    obtain ⟨j3, _⟩ := hJ G2 _ _ H2 st2.ex SB i
    obtain ⟨_, yl⟩ := j3 ds[i] (List.getElem?_eq_getElem hl)
    obtain ⟨G3, st3, S3, rp⟩ := yl x H3 y
    cases eb : bd ds[i] { s2 with d := blank vs s2.d } with
    | none => rw [eb] at k2; exact k2.elim
    | some s4 =>
      rw [eb] at k2
      refine ho x ds[i] G3 _ (wipe σ vs) H3 s4 _ S3 rp eb fun σ4 l4 n4 m4 w4 st4 S4 => ?_
      have hw : wipe σ4 vs = wipe σ vs := (wipe_same l4 fun i hi => n4 i fun z => hi (hj i z)).trans (wipe_wipe σ vs)
      refine ⟨hw, G3, s4, S4, ?_⟩
      have stA := (stB.trans st3).trans st4
      -- what holds behind the turn
      have fin : ∀ {G5 : Hp} {s5 : DSt} {H5 : Hp}, Stp G2 s2 σ H2 G5 s5 σ4 H5 → SA K G5 s5 σ4 H5 → SA K G5 { s5 with d := putBack vs s2.d s5.d } σ H5 ∧ Stp G1 s1 σ H1 G5 { s5 with d := putBack vs s2.d s5.d } σ H5 ∧ H5 D = some (.lst accv) ∧ G5 D = none ∧ ¬ Own { s5 with d := putBack vs s2.d s5.d } σ D := by
        intro G5 s5 H5 st5 S5
        obtain ⟨b1, b2⟩ := sa_back S2 hn S5 st5.ex hw
        obtain ⟨c1, c2⟩ := st5.keep D _ hD2 nD2
        have st6 : Stp G2 s2 σ H2 G5 { s5 with d := putBack vs s2.d s5.d } σ H5 := ⟨st5.ex, st5.keep, fun a z => st5.own a (b2 a z), st5.dom, st5.pw⟩
        exact ⟨b1, st2.trans st6, c1, c2.trans gD2, fun z => (st6.own D z).elim nD2 fun z => by rw [hD2] at z; cases z⟩
      have k2 : Out K cl W G1 s1 σ H1 ((nerr (ft s4)).bind _) _ := k2
      cases et : ft s4 with
      | err x s5 => rw [et] at k2; exact k2.elim
      | stuck => rw [et] at k2; exact k2.elim
      | ok t s5 =>
        rw [et] at k2
        intro G5 H5 st5 S5
        have st25 := stA.trans st5
        cases t with
        | false =>
          obtain ⟨b1, b2, b3, b4, b5⟩ := fin st25 S5
          exact ⟨G5, _, acc, accv, b1, b2, b3, dps_mono st25.ex _ _ hacc, b4, b5, Nat.le_succ_of_le hla, k2⟩
        | true =>
          have k2 : Out K cl W G1 s1 σ H1 ((nerr (bnd fe fEsc s5)).bind _) _ := k2
          refine ⟨G5, s5, S5, ?_⟩
          cases ef : fe s5 with
          | err x s6 => rw [bnd_app, ef] at k2; exact k2.elim
          | stuck => rw [bnd_app, ef] at k2; exact k2.elim
          | ok r s6 =>
            rw [bnd_app, ef] at k2
            intro G6 H6 st6 S6 v rr
            have k2 : Out K cl W G1 s1 σ H1 ((nerr (fEsc r s6)).bind _) _ := k2
            unfold fEsc at k2
            cases ee : esc r s6 with
            | none => rw [ee] at k2; exact k2.elim
            | some p =>
              obtain ⟨r2, s7⟩ := p
              rw [ee] at k2
              obtain ⟨G7, st7, S7, ex7, ar⟩ := esc_ok S6 st6 rr ee
              have st27 := st25.trans st7
              obtain ⟨b1, b2, b3, b4, b5⟩ := fin st27 S7
              cases r2 with
              | raw u => exact k2.elim
              | ob o => exact k2.elim
              | new u => exact k2.elim
              | slot u => exact k2.elim
              | val d =>
                have hacc7 := dps_mono st27.ex _ _ hacc
                refine ⟨accv, b3, ?_, G7, _, acc ++ [d], accv ++ [v], sa_write b1 b4 b5, ⟨b2.ex, fun a o h1 h2 => ?_, b2.own, fun a h1 => ?_, b2.pw⟩, upd_same, dps_app hacc7 (.cons ar .nil), b4, b5, by simp; omega, k2⟩
                · rw [dps_len hacc]
                  omega
                · have ne : a ≠ D := fun z => by subst z; rw [hD] at h1; cases h1
                  rw [upd_ne ne]
                  exact b2.keep a o h1 h2
                · by_cases ne : a = D
                  · subst ne; rw [upd_same]; simp
                  · rw [upd_ne ne]; exact b2.dom a h1
  · have e : i = ds.length := by omega
    subst e
    rw [List.drop_length] at k2
    refine .inl ⟨j2 (Nat.le_refl _), ?_⟩
    have k3 := k2 G2 H2 st2 S2
    have k4 := k3 G2 H2 Stp.refl S2 (.ref D) ⟨D, accv, rfl, hD2, hacc, gD2, Classical.byContradiction fun z => st1.dom D z hD, nD2⟩
    exact k4
abbrev W0 : WX := fun _ _ _ _ => False
theorem d_lc {elt : Expr} {ifs : List Expr} {scope : Scope} {own : List (Str × Nat)} {gg : TG} {bd : Bd} {js : List Nat} {ft : M Bool} {fe : M R} (hc : X.calm = true) (hN : X.N.Nodup) (hi : DI X cl W tg iter fi) (ok : BlkOk X.N X.env.scope scope own) (ho : GOk X.K gg bd js) (hj : ∀ j ∈ js, j ∈ own.map (·.2))
    (hg : ∀ (s : Shared) (H : Hp) (C : Addr) (cl : List (Str × Addr)) (fp : List Addr), PG (X.blk s H scope (compEnvC scope cl C X.env) fp) tg gg) (ht : ∀ (s : Shared) (H : Hp) (C : Addr) (clo : List (Str × Addr)) (fp : List Addr), PTs (X.blk s H scope (compEnvC scope clo C X.env) fp) ifs (tT X.K cl W0 ft))
    (he : ∀ (s : Shared) (H : Hp) (C : Addr) (clo : List (Str × Addr)) (fp : List Addr), DE (X.blk s H scope (compEnvC scope clo C X.env) fp) cl W0 elt fe) (hs : ∀ x, foldedSetIterable iter X.env x = pure x := by intro _; rfl) :
    DE X cl W (.ListComp elt [⟨tg, iter, ifs, 0⟩] scope pos) (fLc fi bd ft fe (own.map (·.2))) := pe_imp (pe_lc hc hN hi ok hg ht he hs) fun σ H Q q => lc_reads ho hj q
theorem s_setLc {i : Nat} {y : Str} {py : Pos} {elt : Expr} {ifs : List Expr} {scope : Scope} {own : List (Str × Nat)} {spos : Pos} {gg : TG} {bd : Bd} {js : List Nat} {ft : M Bool} {fe : M R} (hc : X.calm = true) (hN : X.N.Nodup) (hy : X.N[i]? = some y) (hyl : X.env.scope.names.lookup y = some .local)
    (hsw : swapsWith (.ListComp elt [⟨tg, iter, ifs, 0⟩] scope pos) (some (.Name y py)) spos.line X.env = pure true) (hi : DI X cl W tg iter fi) (ok : BlkOk X.N X.env.scope scope own) (ho : GOk X.K gg bd js) (hj : ∀ j ∈ js, j ∈ own.map (·.2))
    (hg : ∀ (s : Shared) (H : Hp) (C : Addr) (cl : List (Str × Addr)) (fp : List Addr), PG (X.blk s H scope (compEnvC scope cl C X.env) fp) tg gg) (ht : ∀ (s : Shared) (H : Hp) (C : Addr) (clo : List (Str × Addr)) (fp : List Addr), PTs (X.blk s H scope (compEnvC scope clo C X.env) fp) ifs (tT X.K cl W0 ft))
    (he : ∀ (s : Shared) (H : Hp) (C : Addr) (clo : List (Str × Addr)) (fp : List Addr), DE (X.blk s H scope (compEnvC scope clo C X.env) fp) cl W0 elt fe) (hs : ∀ x, foldedSetIterable iter X.env x = pure x := by intro _; rfl) :
    DS X cl W (.Assign [.Name y py] (.ListComp elt [⟨tg, iter, ifs, 0⟩] scope pos) spos) (fSet i (fLc fi bd ft fe (own.map (·.2)))) := ps_imp (ps_setLc hc hN hy hyl hsw hi ok hg ht he hs) fun D σ H q => by
  have q' := set_reads q
  exact lc_reads ho hj q'
def fYes : M Bool := ret true
theorem dts_nil {K : PySem.W.Frag} : PTs X [] (tT K cl W fYes) := ⟨fun pins s σ H Q I ⟨G, st, S, h⟩ => pts_nil.run pins s σ H Q I (h G H Stp.refl S)⟩
theorem dts_one {t : M Bool} (h : DT X cl W c t) : PTs X [c] (tT X.K cl W t) := pts_one h
end
end DL

/-! DL9: built-ins, methods -/
noncomputable section
namespace DL
open PySem L2 PyProof.Rows
open Evl (Ex)
def looks : List R → DSt → Option (List PyData)
  | [], _ => some []
  | r :: rs, s => match look r s, looks rs s with
    | some d, some ds => some (d :: ds)
    | _, _ => none
theorem looks_q {K : PySem.W.Frag} {H0 G H : Hp} {s : DSt} {σ : L2.St} (S : SA K G s σ H) : ∀ {rs : List R} {vs : List V} {ds : List PyData}, RRels K H0 G s σ H vs rs → looks rs s = some ds → Paired (Dq K G H) vs ds
  | [], _, _, .nil, e => by cases e; exact .nil
  | r :: rs, _, ds, .cons h t, e => by
    simp only [looks] at e
    split at e
    · rename_i d es e1 e2
      cases e
      exact .cons (look_q S h e1) (looks_q S t e2)
    · cases e
def CallD (K : PySem.W.Frag) (r : List V → Hp → VK → Prop) (o : List PyData → Option R) : Prop := ∀ (G H : Hp) (vs : List V) (ds : List PyData) (r' : R) (Q : VK), Ex G H → Paired (Dq K G H) vs ds → o ds = some r' → Ans K G H r' Q → r vs H Q
def fCall (o : List PyData → Option R) (fs : M (List R)) : M R := bnd fs fun rs s => match looks rs s with
  | some ds => match o ds with
    | some (.slot _) => .stuck
    | some r => .ok r s
    | none => .stuck
  | none => .stuck
section
variable {X : Cx} {cl : String → Addr} {W : WX} {e a b c tg iter : Expr} {es : List Expr} {f g : M R} {fs : M (List R)} {fi : M (List PyData)} {pos : Pos} {p q : DSt → Flow}
theorem call_reads {K : PySem.W.Frag} {r : List V → Hp → VK → Prop} {o : List PyData → Option R} (h : CallD K r o) {σ : L2.St} {H : Hp} {Q : VK} (q : tD K cl W (fCall o fs) σ H Q) : tCB r (tA K cl W fs) σ H Q := by
  obtain ⟨G, s, S, q⟩ := q
  refine ⟨G, s, S, out_mono (out_bind q) fun rs G1 s1 H1 st1 S1 k vs hv => ?_⟩
  split at k
  · rename_i ds e1
    split at k
    · exact k.elim
    · rename_i r' ns ho
      exact h G1 H1 vs ds r' Q S1.gh (looks_q S1 hv e1) ho (ans_of S1 st1.dom (fun i z => ns i z) k)
    · exact k.elim
  · exact k.elim
theorem d_callB {x : Str} {p : Pos} {id : String} {r : List V → Hp → VK → Prop} {o : List PyData → Option R} (hc : CallR X (.builtin id) r) (h : CallD X.K r o) (hg : Gl X x) (hm : X.mg x = none) (hv : bootBuiltins x = some (.builtin id)) (ha : DA X cl W (e :: es) fs) (hn : x ≠ "__name__" := by decide) (hdb : (x == ("__debug__" : Str)) = false := by decide)
    (he : starEach (e :: es) X.env = (false, eval e X.env) :: starEach es X.env := by rfl) (hpl : (backTo pos (starEach es X.env)).any (·.1) = false := by rfl) : DE X cl W (.Call (.Name x p) (e :: es) [] pos) (fCall o fs) :=
  pe_imp (pe_callB hc hg hm hv ha hn hdb he hpl) fun σ H Q q => call_reads h q
theorem d_callTy {x : Str} {p : Pos} {T : String} {r : List V → Hp → VK → Prop} {o : List PyData → Option R} (hc : CallR X (.type T) r) (h : CallD X.K r o) (hg : Gl X x) (hm : X.mg x = none) (hv : bootBuiltins x = some (.type T)) (ha : DA X cl W (e :: es) fs) (hn : x ≠ "__name__" := by decide) (hdb : (x == ("__debug__" : Str)) = false := by decide)
    (he : starEach (e :: es) X.env = (false, eval e X.env) :: starEach es X.env := by rfl) (hpl : (backTo pos (starEach es X.env)).any (·.1) = false := by rfl) : DE X cl W (.Call (.Name x p) (e :: es) [] pos) (fCall o fs) :=
  pe_imp (pe_callTy hc hg hm hv ha hn hdb he hpl) fun σ H Q q => call_reads h q
theorem CallR.or' {f : Value} {r r' : List V → Hp → VK → Prop} (h : CallR X f r) (h' : CallR X f r') : CallR X f (fun vs H Q => r vs H Q ∨ r' vs H Q) := by
  intro pins s σ H vs us Q I rv q
  rcases q with q | q
  · exact h pins s σ H vs us Q I rv q
  · exact h' pins s σ H vs us Q I rv q
end
/-! the built-ins -/
def lenO : List PyData → Option R
  | [.list ds] => some (.val (.int ds.length))
  | [.tuple ds] => some (.val (.int ds.length))
  | [.str z] => if leS (z.length) then some (.val (.int z.length)) else none
  | _ => none
theorem cd_len {K : PySem.W.Frag} : CallD K (fun xs H Q => (∃ p ys, xs = [.ref p] ∧ (SqL K H p ys ∨ SqT K H p ys) ∧ Q (.int ys.length) H) ∨ ∃ z, xs = [.str z] ∧ z.length ≤ sizeLine ∧ Q (.int z.length) H) lenO := by
  intro G H vs ds r' Q ex hv ho k
  unfold lenO at ho
  split at ho
  · cases ho
    cases hv with
    | cons h t =>
      cases t
      obtain ⟨p, xs, rfl, hp, hx⟩ := dq_lst h
      refine .inl ⟨p, xs, rfl, .inl (.of hp), ?_⟩
      rw [dps_len hx]
      exact k.1 _ (.int _)
  · cases ho
    cases hv with
    | cons h t =>
      cases t
      obtain ⟨p, xs, rfl, hp, hx, _⟩ := dq_tup ex h
      refine .inl ⟨p, xs, rfl, .inr hp, ?_⟩
      rw [dps_len hx]
      exact k.1 _ (.int _)
  · split at ho
    · cases ho
      cases hv with
      | cons h t =>
        cases t
        obtain rfl := dq_str h
        exact .inr ⟨_, rfl, by assumption, k.1 _ (.int _)⟩
    · cases ho
  · cases ho
def listO : List PyData → Option R
  | [.list ds] => some (.new ds)
  | [.tuple ds] => some (.new ds)
  | _ => none
theorem cd_list {K : PySem.W.Frag} : CallD K (fun xs H Q => ∃ p ys, xs = [.ref p] ∧ (SqL K H p ys ∨ SqT K H p ys) ∧ ∀ l, H l = none → Q (.ref l) (upd H l (.lst ys))) listO := by
  intro G H vs ds r' Q ex hv ho k
  unfold listO at ho
  split at ho
  · cases ho
    cases hv with
    | cons h t =>
      cases t
      obtain ⟨p, xs, rfl, hp, hx⟩ := dq_lst h
      exact ⟨p, xs, rfl, .inl (.of hp), fun l hl => k l _ hl hx⟩
  · cases ho
    cases hv with
    | cons h t =>
      cases t
      obtain ⟨p, xs, rfl, hp, hx, _⟩ := dq_tup ex h
      exact ⟨p, xs, rfl, .inr hp, fun l hl => k l _ hl hx⟩
  · cases ho
def tupleO : List PyData → Option R
  | [.list ds] => some (.val (.tuple ds))
  | [.tuple ds] => some (.val (.tuple ds))
  | _ => none
theorem cd_tuple {K : PySem.W.Frag} : CallD K (fun xs H Q => ∃ p ys, xs = [.ref p] ∧ ((SqL K H p ys ∧ ∀ l, H l = none → Q (.ref l) (upd H l (.tup ys))) ∨ (SqT K H p ys ∧ Q (.ref p) H))) tupleO := by
  intro G H vs ds r' Q ex hv ho k
  unfold tupleO at ho
  split at ho
  · cases ho
    cases hv with
    | cons h t =>
      cases t
      obtain ⟨p, xs, rfl, hp, hx⟩ := dq_lst h
      exact ⟨p, xs, rfl, .inl ⟨.of hp, fun l hl => k.2 _ l _ rfl hl hx⟩⟩
  · cases ho
    cases hv with
    | cons h t =>
      cases t
      obtain ⟨p, xs, rfl, hp, hx, h1⟩ := dq_tup ex h
      exact ⟨p, xs, rfl, .inr ⟨hp, k.1 _ h1⟩⟩
  · cases ho
/-- ints, bools of data -/
def intsD : List PyData → Option (List Int)
  | [] => some []
  | .int i :: r => (intsD r).map (i :: ·)
  | _ :: _ => none
def boolsD : List PyData → Option (List Bool)
  | [] => some []
  | .bool i :: r => (boolsD r).map (i :: ·)
  | _ :: _ => none
theorem ints_rp {K : PySem.W.Frag} {G : Hp} : ∀ {ds : List PyData} {vs : List V} {ns : List Int}, RpAll K G vs ds → intsD ds = some ns → vs = ns.map V.int
  | [], _, _, h, e => by cases h; cases e; rfl
  | .int i :: r, _, ns, h, e => by
    cases h with
    | cons h1 h2 =>
      cases h1
      simp only [intsD] at e
      cases q : intsD r with
      | none => rw [q] at e; cases e
      | some ms => rw [q] at e; cases e; rw [ints_rp h2 q]; rfl
  | .none :: _, _, _, _, e | .bool _ :: _, _, _, _, e | .str _ :: _, _, _, _, e | .list _ :: _, _, _, _, e | .tuple _ :: _, _, _, _, e | .dict _ :: _, _, _, _, e => by cases e
theorem bools_rp {K : PySem.W.Frag} {G : Hp} : ∀ {ds : List PyData} {vs : List V} {ns : List Bool}, RpAll K G vs ds → boolsD ds = some ns → vs = ns.map V.bl
  | [], _, _, h, e => by cases h; cases e; rfl
  | .bool i :: r, _, ns, h, e => by
    cases h with
    | cons h1 h2 =>
      cases h1
      simp only [boolsD] at e
      cases q : boolsD r with
      | none => rw [q] at e; cases e
      | some ms => rw [q] at e; cases e; rw [bools_rp h2 q]; rfl
  | .none :: _, _, _, _, e | .int _ :: _, _, _, _, e | .str _ :: _, _, _, _, e | .list _ :: _, _, _, _, e | .tuple _ :: _, _, _, _, e | .dict _ :: _, _, _, _, e => by cases e
theorem rp_ints {K : PySem.W.Frag} {G : Hp} : ∀ ns : List Int, RpAll K G (ns.map V.int) (ns.map PyData.int)
  | [] => .nil
  | n :: ns => .cons (.int n) (rp_ints ns)
@[simp] theorem intsD_map : ∀ ns : List Int, intsD (ns.map PyData.int) = some ns
  | [] => rfl
  | n :: ns => by simp [intsD, intsD_map ns]
@[simp] theorem boolsD_map : ∀ ns : List Bool, boolsD (ns.map PyData.bool) = some ns
  | [] => rfl
  | n :: ns => by simp [boolsD, boolsD_map ns]
def allO : List PyData → Option R
  | [.list ds] => (boolsD ds).map fun bs => .val (.bool (bs.all id))
  | _ => none
def anyO : List PyData → Option R
  | [.list ds] => (boolsD ds).map fun bs => .val (.bool (bs.any id))
  | _ => none
def sumO : List PyData → Option R
  | [.list ds] => (intsD ds).map fun bs => .val (.int bs.sum)
  | _ => none
theorem cd_all {K : PySem.W.Frag} : CallD K (rAll K) allO := by
  intro G H vs ds r' Q ex hv ho k
  unfold allO at ho
  split at ho
  · cases hv with
    | cons h t =>
      cases t
      obtain ⟨p, xs, rfl, hp, hx⟩ := dq_lst h
      rename_i es
      cases q : boolsD es with
      | none => rw [q] at ho; cases ho
      | some bs => rw [q] at ho; cases ho; exact ⟨p, bs, rfl, .of (by rw [← bools_rp hx q]; exact hp), k.1 _ (.bl _)⟩
  · cases ho
theorem cd_any {K : PySem.W.Frag} : CallD K (rAny K) anyO := by
  intro G H vs ds r' Q ex hv ho k
  unfold anyO at ho
  split at ho
  · cases hv with
    | cons h t =>
      cases t
      obtain ⟨p, xs, rfl, hp, hx⟩ := dq_lst h
      rename_i es
      cases q : boolsD es with
      | none => rw [q] at ho; cases ho
      | some bs => rw [q] at ho; cases ho; exact ⟨p, bs, rfl, .of (by rw [← bools_rp hx q]; exact hp), k.1 _ (.bl _)⟩
  · cases ho
theorem cd_sum {K : PySem.W.Frag} : CallD K (rSum K) sumO := by
  intro G H vs ds r' Q ex hv ho k
  unfold sumO at ho
  split at ho
  · cases hv with
    | cons h t =>
      cases t
      obtain ⟨p, xs, rfl, hp, hx⟩ := dq_lst h
      rename_i es
      cases q : intsD es with
      | none => rw [q] at ho; cases ho
      | some bs => rw [q] at ho; cases ho; exact ⟨p, bs, rfl, .of (by rw [← ints_rp hx q]; exact hp), k.1 _ (.int _)⟩
  · cases ho
/-- the greatest, the least of ints -/
def maxI : List Int → Int
  | [] => 0
  | n :: ns => ns.foldl max n
def minI : List Int → Int
  | [] => 0
  | n :: ns => ns.foldl min n
theorem foldl_max_ge : ∀ (ns : List Int) (n : Int), n ≤ ns.foldl max n ∧ (∀ y ∈ ns, y ≤ ns.foldl max n) ∧ (ns.foldl max n = n ∨ ns.foldl max n ∈ ns)
  | [], n => by simp
  | m :: ns, n => by
    obtain ⟨h1, h2, h3⟩ := foldl_max_ge ns (max n m)
    simp only [List.foldl_cons, List.mem_cons]
    refine ⟨by omega, fun y hy => ?_, ?_⟩
    · rcases hy with rfl | hy
      · omega
      · exact h2 y hy
    · rcases h3 with h3 | h3
      · rcases Int.le_total n m with q | q
        · right; left; rw [h3]; omega
        · left; rw [h3]; omega
      · exact .inr (.inr h3)
theorem foldl_min_le : ∀ (ns : List Int) (n : Int), ns.foldl min n ≤ n ∧ (∀ y ∈ ns, ns.foldl min n ≤ y) ∧ (ns.foldl min n = n ∨ ns.foldl min n ∈ ns)
  | [], n => by simp
  | m :: ns, n => by
    obtain ⟨h1, h2, h3⟩ := foldl_min_le ns (min n m)
    simp only [List.foldl_cons, List.mem_cons]
    refine ⟨by omega, fun y hy => ?_, ?_⟩
    · rcases hy with rfl | hy
      · omega
      · exact h2 y hy
    · rcases h3 with h3 | h3
      · rcases Int.le_total n m with q | q
        · left; rw [h3]; omega
        · right; left; rw [h3]; omega
      · exact .inr (.inr h3)
theorem maxI_mem {ns : List Int} (h : ns ≠ []) : maxI ns ∈ ns := by
  cases ns with
  | nil => exact (h rfl).elim
  | cons n ns =>
    show ns.foldl max n ∈ n :: ns
    rcases (foldl_max_ge ns n).2.2 with q | q
    · rw [q]; exact List.mem_cons_self
    · exact List.mem_cons_of_mem _ q
theorem maxI_ge {ns : List Int} {y : Int} (h : y ∈ ns) : y ≤ maxI ns := by
  cases ns with
  | nil => cases h
  | cons n ns =>
    unfold maxI
    rcases List.mem_cons.mp h with rfl | h
    · exact (foldl_max_ge ns y).1
    · exact (foldl_max_ge ns n).2.1 y h
theorem minI_mem {ns : List Int} (h : ns ≠ []) : minI ns ∈ ns := by
  cases ns with
  | nil => exact (h rfl).elim
  | cons n ns =>
    show ns.foldl min n ∈ n :: ns
    rcases (foldl_min_le ns n).2.2 with q | q
    · rw [q]; exact List.mem_cons_self
    · exact List.mem_cons_of_mem _ q
theorem minI_le {ns : List Int} {y : Int} (h : y ∈ ns) : minI ns ≤ y := by
  cases ns with
  | nil => cases h
  | cons n ns =>
    unfold minI
    rcases List.mem_cons.mp h with rfl | h
    · exact (foldl_min_le ns y).1
    · exact (foldl_min_le ns n).2.1 y h
def maxO : List PyData → Option R
  | [.list ds] => match intsD ds with
    | some (n :: ns) => some (.val (.int (maxI (n :: ns))))
    | _ => none
  | [.int i, .int j] => some (.val (.int (if j > i then j else i)))
  | _ => none
def minO : List PyData → Option R
  | [.list ds] => match intsD ds with
    | some (n :: ns) => some (.val (.int (minI (n :: ns))))
    | _ => none
  | [.int i, .int j] => some (.val (.int (if j < i then j else i)))
  | _ => none
theorem cd_max {K : PySem.W.Frag} : CallD K (fun vs H Q => rMax K vs H Q ∨ ∃ i j, vs = [.int i, .int j] ∧ Q (.int (if j > i then j else i)) H) maxO := by
  intro G H vs ds r' Q ex hv ho k
  unfold maxO at ho
  split at ho
  · cases hv with
    | cons h t =>
      cases t
      obtain ⟨p, xs, rfl, hp, hx⟩ := dq_lst h
      split at ho
      · rename_i n ns q
        cases ho
        refine .inl ⟨p, n :: ns, rfl, .of (by rw [← ints_rp hx q]; exact hp), by simp, fun m hm hle => ?_⟩
        have e : m = maxI (n :: ns) := Int.le_antisymm (maxI_ge hm) (hle _ (maxI_mem (by simp)))
        rw [e]
        exact k.1 _ (.int _)
      · cases ho
  · cases ho
    cases hv with
    | cons h t =>
      cases t with
      | cons h2 t =>
        cases t
        obtain rfl := dq_int h
        obtain rfl := dq_int h2
        exact .inr ⟨_, _, rfl, k.1 _ (.int _)⟩
  · cases ho
theorem cd_min {K : PySem.W.Frag} : CallD K (fun vs H Q => rMin K vs H Q ∨ ∃ i j, vs = [.int i, .int j] ∧ Q (.int (if j < i then j else i)) H) minO := by
  intro G H vs ds r' Q ex hv ho k
  unfold minO at ho
  split at ho
  · cases hv with
    | cons h t =>
      cases t
      obtain ⟨p, xs, rfl, hp, hx⟩ := dq_lst h
      split at ho
      · rename_i n ns q
        cases ho
        refine .inl ⟨p, n :: ns, rfl, .of (by rw [← ints_rp hx q]; exact hp), by simp, fun m hm hle => ?_⟩
        have e : m = minI (n :: ns) := Int.le_antisymm (hle _ (minI_mem (by simp))) (minI_le hm)
        rw [e]
        exact k.1 _ (.int _)
      · cases ho
  · cases ho
    cases hv with
    | cons h t =>
      cases t with
      | cons h2 t =>
        cases t
        obtain rfl := dq_int h
        obtain rfl := dq_int h2
        exact .inr ⟨_, _, rfl, k.1 _ (.int _)⟩
  · cases ho
def absO : List PyData → Option R
  | [.int i] => some (.val (.int (if i < 0 then -i else i)))
  | _ => none
theorem cd_abs {K : PySem.W.Frag} : CallD K (fun xs H Q => ∃ i, xs = [.int i] ∧ Q (.int (if i < 0 then -i else i)) H) absO := by
  intro G H vs ds r' Q ex hv ho k
  unfold absO at ho
  split at ho
  · cases ho
    cases hv with
    | cons h t =>
      cases t
      obtain rfl := dq_int h
      exact ⟨_, rfl, k.1 _ (.int _)⟩
  · cases ho
def intO : List PyData → Option R
  | [.int i] => some (.val (.int i))
  | [.bool b] => some (.val (.int (if b then 1 else 0)))
  | _ => none
theorem cd_int {K : PySem.W.Frag} : CallD K (fun xs H Q => (∃ i, xs = [.int i] ∧ Q (.int i) H) ∨ ∃ k, xs = [.bl k] ∧ Q (.int (if k then 1 else 0)) H) intO := by
  intro G H vs ds r' Q ex hv ho k
  unfold intO at ho
  split at ho
  · cases ho
    cases hv with
    | cons h t =>
      cases t
      obtain rfl := dq_int h
      exact .inl ⟨_, rfl, k.1 _ (.int _)⟩
  · cases ho
    cases hv with
    | cons h t =>
      cases t
      obtain rfl := dq_bl h
      exact .inr ⟨_, rfl, k.1 _ (.int _)⟩
  · cases ho
/-- sorted of ints -/
def sortI (ns : List Int) : List Int := ns.mergeSort fun a b => decide (a ≤ b)
theorem sortI_perm (ns : List Int) : (sortI ns).Perm ns := List.mergeSort_perm _ _
theorem sortI_le (ns : List Int) : (sortI ns).Pairwise (· ≤ ·) := by
  have h := List.pairwise_mergeSort (le := fun a b : Int => decide (a ≤ b)) (fun a b c h1 h2 => by simp at *; omega) (fun a b => by simp; omega) ns
  exact h.imp fun h => by simpa using h
theorem perm_sorted_eq : ∀ {l m : List Int}, l.Perm m → l.Pairwise (· ≤ ·) → m.Pairwise (· ≤ ·) → l = m
  | [], m, h, _, _ => by have := h.length_eq; cases m with | nil => rfl | cons => simp at this
  | a :: l, [], h, _, _ => by have := h.length_eq; simp at this
  | a :: l, b :: m, h, h1, h2 => by
    have ha := (List.pairwise_cons.mp h1)
    have hb := (List.pairwise_cons.mp h2)
    have e1 : a ∈ b :: m := h.mem_iff.mp List.mem_cons_self
    have e2 : b ∈ a :: l := h.mem_iff.mpr List.mem_cons_self
    have e : a = b := by
      rcases List.mem_cons.mp e1 with e | e
      · exact e
      · rcases List.mem_cons.mp e2 with f | f
        · exact f.symm
        · have := ha.1 b f; have := hb.1 a e; omega
    subst e
    rw [perm_sorted_eq (List.Perm.cons_inv h) ha.2 hb.2]
theorem sortI_eq {ns ms : List Int} (h : ms.Perm ns) (h2 : ms.Pairwise (· ≤ ·)) : ms = sortI ns := perm_sorted_eq (h.trans (sortI_perm ns).symm) h2 (sortI_le ns)
/-- data of one kind in order -/
def sortDD (ds : List PyData) : List PyData := ds.mergeSort (PySem.W.sortLe (PyProof.Rows.listOrd PyProof.Rows.itemOrd) false PySem.W.keyToks)
def canSort (ds : List PyData) : Prop := PySem.W.AllAlike ds ∧ PySem.W.Sortable ds ∧ ∀ d ∈ ds, d.depth ≤ 50
instance (ds : List PyData) : Decidable (canSort ds) := Classical.propDecidable _
def sortedO : List PyData → Option R
  | [.list ds] => match intsD ds with
    | some ns => some (.new ((sortI ns).map .int))
    | none => if canSort ds then some (.new (sortDD ds)) else none
  | _ => none
def rSortedD (K : PySem.W.Frag) : List V → Hp → VK → Prop := fun vs H Q => ∃ (a : Addr) (xs : List V) (ds : List PyData), vs = [.ref a] ∧ SqL K H a xs ∧ DpAll K H xs ds ∧ canSort ds ∧
  ∀ zs : List (V × PyData), zs.Perm (xs.zip ds) → zs.map (·.2) = sortDD ds → ∀ p, H p = none → Q (.ref p) (upd H p (.lst (zs.map (·.1))))
theorem each_of {α β : Type} {R : α → β → Prop} : ∀ {as : List α} {bs : List β}, as.length = bs.length → (∀ (i : Nat) (a : α) (b : β), as[i]? = some a → bs[i]? = some b → R a b) → PySem.W.EachIs R as bs
  | [], [], _, _ => .nil
  | [], _ :: _, h, _ => by simp at h
  | _ :: _, [], h, _ => by simp at h
  | a :: as, b :: bs, h, f => .cons (f 0 a b rfl rfl) (each_of (by simpa using h) fun i a b h1 h2 => f (i + 1) a b (by simpa using h1) (by simpa using h2))
theorem each_get {α β : Type} {R : α → β → Prop} {as : List α} {bs : List β} (h : PySem.W.EachIs R as bs) : ∀ (i : Nat) (a : α), as[i]? = some a → ∃ b, bs[i]? = some b ∧ R a b := by
  induction h with
  | nil => intro i a e; simp at e
  | cons r _ ih =>
    intro i a e
    cases i with
    | zero => simp at e; subst e; exact ⟨_, rfl, r⟩
    | succ i => simpa using ih i a (by simpa using e)
theorem dpsAll_get {K : PySem.W.Frag} {H : Hp} : ∀ {ds : List PyData} {vs : List V} {i : Nat} {v : V}, DpAll K H vs ds → vs[i]? = some v → ∃ d, ds[i]? = some d ∧ Dp K H v d
  | [], _, i, v, h, e => by cases h; simp at e
  | d :: ds, _, 0, v, h, e => by
    cases h with
    | cons h1 h2 => simp at e; subst e; exact ⟨d, rfl, h1⟩
  | d :: ds, _, i + 1, v, h, e => by
    cases h with
    | cons h1 h2 => simpa using dpsAll_get (i := i) h2 (by simpa using e)
theorem dpsAll_len {K : PySem.W.Frag} {H : Hp} : ∀ {ds : List PyData} {vs : List V}, DpAll K H vs ds → vs.length = ds.length
  | [], _, h => by cases h; rfl
  | d :: ds, _, h => by
    cases h with
    | cons h1 h2 => simp [dpsAll_len h2]
theorem vals_paired : ∀ {zs : List (V × PyData)} {us : List Value}, PySem.W.EachIs (fun (u : Value) (z : V × PyData) => RelV z.1 u) us zs → Vals (zs.map (·.1)) us
  | _, _, .nil => .nil
  | _, _, .cons r t => .cons r (vals_paired t)
section
variable {X : Cx}
theorem cr_sortedD (hu : X.A.units + 64 < cLine) : CallR X (.builtin "sorted") (rSortedD X.K) := by
  intro pins s σ H vs us Q I rv h
  obtain ⟨a, xs, ds, rfl, hs, hd, ⟨c1, c2, c3⟩, q⟩ := h
  obtain ⟨its, r, pl, hz⟩ := I.list hs
  rw [Vals.ref1 rv]
  have lx := dpsAll_len hd
  have li : its.length = xs.length := r.length.symm
  obtain ⟨zs, ezs⟩ : ∃ zs, zs = xs.zip ds := ⟨_, rfl⟩
  have lz : zs.length = its.length := by rw [ezs, List.length_zip]; omega
  have zget : ∀ (i : Nat) (z : V × PyData), zs[i]? = some z → xs[i]? = some z.1 ∧ ds[i]? = some z.2 := fun i z e => by
    rw [ezs, List.getElem?_zip_eq_some] at e
    exact e
  have both : ∀ (i : Nat) (u : Value) (z : V × PyData), its[i]? = some u → zs[i]? = some z → RelV z.1 u ∧ z.2 ∈ ds ∧ ∀ h', (∀ b o, s.heap.get? b = some o → h'.get? b = some o) → ∃ as, Reads h' u z.2 as := by
    intro i u z e1 e2
    obtain ⟨g1, g2⟩ := zget i z e2
    obtain ⟨u', e3, rr⟩ := r.get g1
    rw [e1] at e3
    cases e3
    refine ⟨rr, List.mem_of_getElem? g2, fun h' hk => ?_⟩
    obtain ⟨d, e4, dp⟩ := dpsAll_get hd g1
    rw [g2] at e4
    cases e4
    have J : Inv X pins σ H { s with heap := h', toks := s.toks } := I.kept hk
    exact Dp.reads J z.2 z.1 u dp rr
  have hsz : its.length ≤ sizeLine := by rw [li]; exact hz
  have old : ∀ b o, s.heap.get? b = some o → (PySem.W.sortingHeap (PySem.W.copyHeap s.heap its) (s.heap.objs.size + 1) its).get? b = some o := fun b o e => PySem.W.sorting_copy_old e
  have eD : PySem.W.EachIs (fun v d => ∃ as, Reads (PySem.W.sortingHeap (PySem.W.copyHeap s.heap its) (s.heap.objs.size + 1) its) v d as) its ds := each_of (by omega) fun i u d e1 e2 => by
    obtain ⟨x, e3⟩ : ∃ x, xs[i]? = some x := by
      have := (List.getElem?_eq_some_iff.mp e1).1
      exact ⟨_, List.getElem?_eq_getElem (by omega : i < xs.length)⟩
    have ez : zs[i]? = some (x, d) := by rw [ezs, List.getElem?_zip_eq_some]; exact ⟨e3, e2⟩
    exact (both i u (x, d) e1 ez).2.2 _ old
  have un : X.A.in1.in1.units = X.A.units + 2 := rfl
  have S := PySem.W.SortsAt.data (prog := X.prog) (w := X.w) (A := X.A.in1.in1) (s := { s with heap := PySem.W.sortingHeap (PySem.W.copyHeap s.heap its) (s.heap.objs.size + 1) its }) eD c1 c2 fun d hd => by
    have := c3 d hd
    rw [un]
    omega
  refine PySem.W.sorted_vals pl.isList S hsz ?_
  have e1 : PySem.W.EachIs (fun (u : Value) (z : V × PyData) => RelV z.1 u) its zs := each_of lz.symm fun i u z g1 g2 => (both i u z g1 g2).1
  have e2 : PySem.W.EachIs (fun v (z : V × PyData) => (PySem.W.dataKind (PySem.W.sortingHeap (PySem.W.copyHeap s.heap its) (s.heap.objs.size + 1) its) ds).keyOf v = some (PySem.W.keyToks z.2)) its zs := each_of lz.symm fun i u z g1 g2 => by
    obtain ⟨_, md, rd⟩ := both i u z g1 g2
    obtain ⟨as, rd⟩ := rd _ old
    exact PySem.W.dataKind_some c1 md rd
  have e3 := PySem.W.sortVals_each (κ := PySem.W.dataKind (PySem.W.sortingHeap (PySem.W.copyHeap s.heap its) (s.heap.objs.size + 1) its) ds) (rev := false) (fun z : V × PyData => PySem.W.keyToks z.2) e1 e2
  obtain ⟨ys, ey⟩ : ∃ ys, ys = zs.mergeSort (PySem.W.sortLe (PyProof.Rows.listOrd PyProof.Rows.itemOrd) false fun z : V × PyData => PySem.W.keyToks z.2) := ⟨_, rfl⟩
  have py : ys.Perm zs := by rw [ey]; exact List.mergeSort_perm _ _
  have my : ys.map (·.2) = sortDD ds := by
    have ed : zs.map (·.2) = ds := by rw [ezs]; exact List.map_snd_zip (by omega)
    rw [ey, ← ed]
    exact PySem.W.sort_maps (fun z : V × PyData => z.2) fun _ _ _ _ => rfl
  obtain ⟨out, eo⟩ : ∃ out, out = PySem.W.sortVals (PySem.W.dataKind (PySem.W.sortingHeap (PySem.W.copyHeap s.heap its) (s.heap.objs.size + 1) its) ds) false its its := ⟨_, rfl⟩
  rw [← eo] at e3 ⊢
  have e3 : PySem.W.EachIs (fun (u : Value) (z : V × PyData) => RelV z.1 u) out ys := by rw [ey]; exact e3
  have vo := vals_paired e3
  obtain ⟨ep, he'⟩ := PyProof.Rows.sortedAll_at s.heap its out.toArray
  have hlen : (ys.map (·.1)).length ≤ sizeLine := by rw [List.length_map, py.length_eq]; omega
  exact ⟨.ref _, upd H (s.heap.objs.size + 1) (.lst (ys.map (·.1))), I.laid (t' := s.toks) (fun _ _ => PyProof.Rows.sortedAll_old) (Nat.le_succ _) ⟨hlen, out, ep, vo, he'⟩, rfl, q ys (by rw [← ezs]; exact py) my _ (I.hok.fresh (Nat.le_succ _))⟩
end
theorem rps_zip {K : PySem.W.Frag} {G : Hp} : ∀ {zs : List (V × PyData)}, (∀ z ∈ zs, Rp K G z.1 z.2) → RpAll K G (zs.map (·.1)) (zs.map (·.2))
  | [], _ => .nil
  | z :: zs, h => .cons (h z List.mem_cons_self) (rps_zip fun z hz => h z (List.mem_cons_of_mem _ hz))
theorem cd_sorted {K : PySem.W.Frag} : CallD K (fun vs H Q => rSortedI K vs H Q ∨ rSortedD K vs H Q) sortedO := by
  intro G H vs ds r' Q ex hv ho k
  unfold sortedO at ho
  split at ho
  · cases hv with
    | cons h t =>
      cases t
      obtain ⟨p, xs, rfl, hp, hx⟩ := dq_lst h
      rename_i es
      cases q : intsD es with
      | none =>
        rw [q] at ho
        dsimp only at ho
        split at ho
        · rename_i hc
          cases ho
          refine .inr ⟨p, xs, es, rfl, .of hp, rps_dps _ _ (dps_mono ex _ _ hx), hc, fun zs pz mz l hl => ?_⟩
          have rz : RpAll K G (zs.map (·.1)) (zs.map (·.2)) := rps_zip fun z hz => by
            have hz := pz.mem_iff.mp hz
            obtain ⟨i, hi, e⟩ := List.mem_iff_getElem.mp hz
            have e : (xs.zip es)[i]? = some z := by rw [List.getElem?_eq_getElem hi, e]
            rw [List.getElem?_zip_eq_some] at e
            obtain ⟨d, e2, rr⟩ := dps_get hx e.1
            rw [e.2] at e2
            cases e2
            exact rr
          rw [mz] at rz
          exact k l _ hl rz
        · cases ho
      | some ns =>
        rw [q] at ho
        cases ho
        refine .inl ⟨p, ns, rfl, .of (by rw [← ints_rp hx q]; exact hp), fun ms l h1 h2 hl => ?_⟩
        rw [sortI_eq h1 h2]
        exact k l _ hl (rp_ints _)
  · cases ho
end DL

/-! DLg: promises of defs that are called where nothing is being written out (A.guards = some []) -/
noncomputable section
namespace DL
open PySem L2 PySem.Spec PyProof.Rows
open Evl (Ex)
structure RoomG (k : Nat) (A : Around) : Prop where
  room : Room k A
  quiet : A.guards = some []
theorem RoomG.mono {j k : Nat} {A : Around} (r : RoomG k A) (h : j ≤ k) : RoomG j A := ⟨r.room.mono h, r.quiet⟩
theorem RoomG.units {k : Nat} {A : Around} (r : RoomG k A) : A.units + 64 < cLine := r.room.units
theorem RoomG.deeper {k : Nat} {A : Around} (r : RoomG (k + 1) A) (env : Env) : RoomG k (A.deeper env) := ⟨r.room.deeper env, r.quiet⟩
/-- a def's promise there -/
structure FnG (P : Program) (w : World) (K : PySem.W.Frag) (mg : Str → Option Value) (base : Heap) (CX : CXT) (k : Nat) (f : Addr) (fd : FuncData) (ps : List Str) (sp : Sp) : Prop where
  many : ∀ vs H Q E, sp vs H Q E → vs.length = ps.length
  goes : ∀ (A : Around) (outer : List Env) (st : Shared) (H : Hp) (args : Args) (us : List Value) (vs : List V) (Q : VK) (E : XK), RoomG k A → Env0 P w K mg base A outer st H → BindsTo st fd args (ps.zip us) → Vals vs us → sp vs H Q E →
    codeAny (model P w) A (.call (.ref f) args) (CR CX outer P w H st Q E) st
section
variable {X : Cx} {CX : CXT} {k : Nat} {f : Addr} {fd : FuncData} {ps : List Str} {sp : Sp} {E : L2.St → XK} {x : Str} {p pos : Pos} {e : Expr} {es : List Expr} {t : TA}
theorem run_G {pins : List (Addr × Obj)} {σ : L2.St} {H : Hp} {st : Shared} {Q : VK} {us : List Value} {vs : List V} (F : FnG X.prog X.w X.K X.mg X.base CX k f fd ps sp) (hr : RoomG k X.A) (hb : Binds X.K fd ps []) (hx : PassesAt CX X σ (E σ))
    (I : Inv X pins σ H st) (r : Vals vs us) (h : sp vs H Q (E σ)) : wpAny (model X.prog X.w) X.A (call (.ref f) us) (EP X pins σ Q) X.xe st := by
  have hl : us.length = ps.length := r.length.symm.trans (F.many _ _ _ _ h)
  have hbind := hb st us I.kIn (by simpa using hl)
  rw [List.append_nil] at hbind
  refine wpAny_call (codeAny_mono (F.goes X.A X.stack st H ⟨us, []⟩ us vs Q (E σ) hr I.env0 hbind r h) ?_)
  intro res st' hq
  match res, hq with
  | .error z, hq => exact hx pins H st z st' I hq
  | .ok (.ret u), hq => exact I.after hq
  | .ok .next, hq => exact hq.elim
  | .ok .brk, hq => exact hq.elim
  | .ok .cont, hq => exact hq.elim
theorem pe_callG (F : FnG X.prog X.w X.K X.mg X.base CX k f fd ps sp) (hr : RoomG k X.A) (hg : Gl X x) (hm : X.mg x = some (.ref f)) (hk : PySem.W.keepIn X.K (.ref f) = true) (hb : Binds X.K fd ps []) (hx : ∀ σ, PassesAt CX X σ (E σ))
    (ha : PA X (e :: es) t) (hdb : (x == ("__debug__" : Str)) = false := by decide) (he : starEach (e :: es) X.env = (false, eval e X.env) :: starEach es X.env := by rfl) (hpl : (backTo pos (starEach es X.env)).any (·.1) = false := by rfl) :
    PE X (.Call (.Name x p) (e :: es) [] pos) (tCallS sp E t) :=
  ⟨fun pins st σ H Q I h => wpAny_Call_Name_kw (ld_glob I hg hm (PySem.W.callWith_K (h₀ := X.base) I.ok.mod.kin hk (thn (ha.run pos pins st σ H _ I h) fun _ _ ⟨_, _, I1, r, q⟩ => ⟨I1.kIn, run_G F hr hb (hx σ) I1 r q⟩) he hpl) hdb)⟩
end
section
variable {P : Program} {w : World} {K : PySem.W.Frag} {mg : Str → Option Value} {base : Heap}
/-- a def by its body -/
theorem okG {x qual : Str} {d : Stmt} {f : Addr} {fd : FuncData} {N ps : List Str} {k : Nat} {sp : Sp} (F : Fun K x qual d f fd) (S : FnScope N ps (defScope d)) (many : ∀ vs H Q E, sp vs H Q E → vs.length = ps.length)
    (hbody : ∀ (cdv : Value) (A : Around) (outer : List Env) (st : Shared) (H : Hp) (vs : List V) (Q : VK) (E : XK), RoomG k (A.deeper (envOfC qual (defScope d) st.heap.objs.size f cdv)) → sp vs H Q E →
      ∃ t, PSs (cxOf (L2.CX P w) P w K mg base N qual (defScope d) f cdv A outer st H E) (defBody d) t ∧ t { nx := fun _ H' => Q .non H', rt := Q } (start N vs) H) : FnG P w K mg base (L2.CX P w) (k + 1) f fd ps sp := by
  obtain ⟨oc, od, kV, doc, pm, an, cdv, ct, osl, rfl, lk, hcd⟩ := F.ex
  refine ⟨many, ?_⟩
  intro A outer st H args us vs Q E hr e0 hb r hsp
  have up : ∀ b o, base.get? b = some o → st.heap.get? b = some o := fun b o z => (e0.bs b o z).1
  have KX : K.In st.heap := e0.mod.kin.keeps up
  refine codeAny_call_function hr.room.depth (KX _ _ lk) rfl S.co S.gen rfl (PySem.W.codeRec_of KX hcd) (hb _ _ _ _ (wpAny_newFunctionEnv_cells S.kind (fun y hy => ?_) fun env he st1 z => ?_))
  · rcases S.par y.1 (List.of_mem_zip (a := y.1) (b := y.2) hy).1 with q | q
    · exact .inl q
    · exact .inr ⟨q, PySem.W.cellsFrom_some _ _ _ (.inl q)⟩
  · subst he
    obtain ⟨t, ht, hq⟩ := hbody cdv A outer st H vs Q E (hr.deeper _) hsp
    have I : Inv (cxOf (L2.CX P w) P w K mg base N qual (defScope d) f cdv A outer st H E) [] (start N vs) H st1 := inv_start S hr.room.hd e0 (many _ _ _ _ hsp) r z
    refine ⟨(e0.mod.nolimit.keeps up).keeps z.toInCall.keep, codeAny_func (wpAny_mono (ht.run [] st1 (start N vs) H _ I hq) ?_ fun _ _ hs => hs)⟩
    intro fl st' hs
    match fl, hs with
    | .ret u, ⟨v, _, H', J, rv, q⟩ => exact ⟨v, H', J.os, J.bare, J.base, J.hok, rv, q⟩
    | .next, ⟨_, H', J, q⟩ => exact ⟨V.non, H', J.os, J.bare, J.base, J.hok, rfl, q⟩
    | .brk, ⟨_, _, _, q⟩ => exact q.elim
    | .cont, ⟨_, _, _, q⟩ => exact q.elim
end
/-! ### the end: the law is called where nothing is being written out -/
theorem quiet_caller {k : Nat} (h : Room k callerA) : RoomG k callerA := ⟨h, rfl⟩
section
variable {P : Program} {w : World} {K : PySem.W.Frag} {mg mb : Str → Option Value} {k : Nat} {fa a : Addr} {fd : FuncData} {x : Str} {sp : Sp} {s1 : Shared} {us : List Value} {ns : List Int}
def LawEnd (s1 : Shared) (r : Result) (s2 : Shared) : Prop := r = .ok (.ret (.bool true)) ∧ OldK s1.heap s2.heap ∧ s2.os = s1.os ∧ AllBare s2.gens
theorem law_from {H : Hp} (KX : K.In s1.heap) (G1 : s1.heap.Ns mainGlobals mg) (G2 : s1.heap.Ns builtinsNs mb) (G3 : ∀ x : Str, x ≠ "__name__" → mb x = bootBuiltins x) (G4 : s1.heap.NoLimit) (G5 : s1.gens = #[])
    (scr : s1.heap.get? a = some { cls := .type "list", data := .seq us.toArray }) (hr : Room k callerA) (F : ∀ base : Heap, K.In base → base.Ns mainGlobals mg → FnG P w K mg base (L2.CX P w) k fa fd [x] sp)
    (bi : ∀ (st : Shared) (u : Value), BindsTo st fd ⟨[u], []⟩ [(x, u)]) (on : Only H) (pr : sp [.ref a] H (fun v _ => v = .bl true) fun _ _ _ => False) (hok : HOk P w H s1.heap) (one : ∀ b, H b ≠ none → b = a) (out : H a ≠ none → K.lookup a = none) :
    codeAny (model P w) callerA (.call (.ref fa) ⟨[.ref a], []⟩) (LawEnd s1) s1 := by
  have free : ∀ b, b ≠ a → H b = none := fun b nb => Classical.byContradiction fun z => nb (one b z)
  have stays : ∀ (b : Addr) (m : Str → Option Value), s1.heap.Ns b m → (hidT s1.heap H).Ns b m := by
    rintro b m ⟨o, es, ep, e, d, r⟩
    refine ⟨o, es, ep, hidT_get e (free b ?_), d, r⟩
    rintro rfl
    rw [scr] at e
    cases e
    exact absurd d (by intro z; cases z)
  have K1 : K.In (hidT s1.heap H) := fun b o e => hidT_get (KX b o e) (Classical.byContradiction fun z => by
    have := one b z
    subst this
    rw [out z] at e
    cases e)
  obtain ⟨mc, l1, l2⟩ := G4
  have e0 : Env0 P w K mg (hidT s1.heap H) callerA [] s1 H := ⟨rfl, ⟨K1, stays _ _ G1, ⟨mb, stays _ _ G2, G3⟩, ⟨mc, stays _ _ l1, l2⟩⟩, fun _ _ e => of_hidT e, Nat.le_of_eq (hidT_size _ _), trivial, fun _ hb => (by cases hb), hok, .of_eq G5⟩
  refine codeAny_mono ((F _ K1 (stays _ _ G1)).goes callerA [] s1 H ⟨[.ref a], []⟩ [.ref a] [.ref a] _ _ (quiet_caller hr) e0 (bi s1 (.ref a)) (.cons rfl .nil) pr) ?_
  intro r s2 h
  match r, h with
  | .error _, h =>
    obtain ⟨_, _, _, _, _, _, _, _, _, _, _, _, z⟩ := h
    exact z.elim
  | .ok .next, h => exact h.elim
  | .ok .brk, h => exact h.elim
  | .ok .cont, h => exact h.elim
  | .ok (.ret u), ⟨v, H2, os, bare, un, hok2, rv, q⟩ =>
    have q : v = .bl true := q
    subst q
    have rv : u = Value.bool true := rv
    subst rv
    refine ⟨rfl, OldK.of_keep fun b o e => ?_, os, bare⟩
    rcases on b with z | ⟨ob, xs, z⟩
    · exact un.keep b o e z (fun y => by cases y) (fun y => by cases y)
    · have g1 := (hok b _ z).1
      rw [e] at g1
      cases g1
      exact (hok2 b _ (un.frzs b _ _ z)).1
theorem law_goes (KX : K.In s1.heap) (G1 : s1.heap.Ns mainGlobals mg) (G2 : s1.heap.Ns builtinsNs mb) (G3 : ∀ x : Str, x ≠ "__name__" → mb x = bootBuiltins x) (G4 : s1.heap.NoLimit) (G5 : s1.gens = #[])
    (scr : s1.heap.get? a = some { cls := .type "list", data := .seq us.toArray }) (hi : IntsAre us ns) (hl : ns.length ≤ sizeLine) (hr : Room k callerA) (F : ∀ base : Heap, K.In base → base.Ns mainGlobals mg → FnG P w K mg base (L2.CX P w) k fa fd [x] sp)
    (bi : ∀ (st : Shared) (u : Value), BindsTo st fd ⟨[u], []⟩ [(x, u)]) (pr : ∀ H : Hp, Only H → SqL K H a (ns.map V.int) → sp [.ref a] H (fun v _ => v = .bl true) fun _ _ _ => False) :
    codeAny (model P w) callerA (.call (.ref fa) ⟨[.ref a], []⟩) (LawEnd s1) s1 := by
  have rv := vals_ints hi
  have no : ∀ {H : Hp}, (∀ b, H b = none) → Only H := fun h b => .inl (h b)
  cases hk : K.lookup a with
  | some o =>
    have e := KX a o hk
    rw [scr] at e
    cases e
    have lay : SqL K (fun _ => none) a (ns.map V.int) := .inr ⟨_, us.toArray, _, hk, rfl, rfl, rfl, by rw [List.size_toArray, hi.length]; exact hl, by simpa using rv⟩
    exact law_from (H := fun _ => none) KX G1 G2 G3 G4 G5 scr hr F bi (no fun _ => rfl) (pr _ (no fun _ => rfl) lay) (fun _ _ z => by cases z) (fun _ z => absurd rfl z) fun z => absurd rfl z
  | none =>
    obtain ⟨H, eH⟩ : ∃ H : Hp, H = upd (fun _ => none) a (.frz { cls := .type "list", data := .seq us.toArray } (.lst (ns.map V.int))) := ⟨_, rfl⟩
    have at_a : H a = some (.frz { cls := .type "list", data := .seq us.toArray } (.lst (ns.map V.int))) := by rw [eH, upd_same]
    have at_n : ∀ b, b ≠ a → H b = none := fun b nb => by rw [eH, upd_ne nb]
    have on : Only H := fun b => by
      by_cases hb : b = a
      · subst hb; exact .inr ⟨_, _, at_a⟩
      · exact .inl (at_n b hb)
    refine law_from KX G1 G2 G3 G4 G5 scr hr F bi on (pr H on (.inl (.inr ⟨_, at_a⟩))) (fun b u z => ?_) (fun b z => Classical.byContradiction fun nb => z (at_n b nb)) fun _ => hk
    by_cases hb : b = a
    · subst hb
      rw [at_a] at z
      cases z
      exact ⟨scr, by rw [List.length_map]; exact hl, us, _, rv, scr⟩
    · rw [at_n b hb] at z
      cases z
end
end DL

/-! DL10: calls of the program's own defs; a def -/
noncomputable section
namespace DL
open PySem L2 PyProof.Rows
open Evl (Ex)
structure FStp (G : Hp) (w : Pw) (H : Hp) (G' : Hp) (w' : Pw) (H' : Hp) : Prop where
  ex : Ex G G'
  gh : Ex G' H'
  keep : ∀ a o, H a = some o → ¬ POwn w a → H' a = some o ∧ G' a = G a
  own : ∀ a, POwn w' a → POwn w a ∨ H a = none
  dom : ∀ a, H a ≠ none → H' a ≠ none
  pw : ∀ a, POwn w a → POwn w' a
def FRel (K : PySem.W.Frag) (H G' : Hp) (w' : Pw) (H' : Hp) (v : V) : R → Prop
  | .val d => Rp K G' v d
  | .raw u => v = u
  | .ob o => ObRel K G' v o
  | .slot _ => False
  | .new ds => ∃ a xs, v = .ref a ∧ H' a = some (.lst xs) ∧ RpAll K G' xs ds ∧ G' a = none ∧ H a = none ∧ ¬ POwn w' a
def spF (K : PySem.W.Frag) (cl : String → Addr) (F : List R → Pw → FRes) : Sp := fun vs H Q E => ∃ (G : Hp) (rs : List R) (w : Pw), Ex G H ∧ Paired (AR K G) vs rs ∧ PwOk G w H ∧ match F rs w with
  | .ok r w' => ∀ v G' H', FStp G w H G' w' H' → PwOk G' w' H' → FRel K H G' w' H' v r → Q v H'
  | .err x w' => ∀ cls d G' H', FStp G w H G' w' H' → PwOk G' w' H' → XRel K cl x cls d H' → E cls d H'
  | .stuck => False
def fUser (F : List R → Pw → FRes) (fs : M (List R)) : M R := bnd fs fun rs s => match F rs s.w with
  | .ok r w' => .ok r { s with w := w' }
  | .err x w' => .err x { s with w := w' }
  | .stuck => .stuck
section
variable {K : PySem.W.Frag} {G H G' H' : Hp} {s : DSt} {σ : L2.St} {w' : Pw}
theorem call_stp (S : SA K G s σ H) (f : FStp G s.w H G' w' H') (pw : PwOk G' w' H') : Stp G s σ H G' { s with w := w' } σ H' ∧ SA K G' { s with w := w' } σ H' := by
  have own : ∀ i a, OwnAt s σ i a → H a ≠ none ∧ ¬ POwn s.w a := fun i a z => ⟨by obtain ⟨xs, e⟩ := S.ownH (.inl ⟨i, z⟩); rw [e]; simp, S.pne i a z⟩
  refine ⟨⟨f.ex, fun a o h n => f.keep a o h fun z => n (.inr z), fun a z => ?_, f.dom, f.pw⟩, ⟨S.len, f.gh, fun i sl h => ?_, S.inj, fun i a z => ?_, pw, fun i a z q => ?_⟩⟩
  · rcases z with z | z
    · exact .inl (.inl z)
    · exact (f.own a z).imp .inr id
  · have q := S.slot i sl h
    cases sl with
    | no => trivial
    | val d => obtain ⟨v, e, hd⟩ := q; exact ⟨v, e, dp_mono f.ex _ _ hd⟩
    | raw v => exact q
    | ob o => obtain ⟨v, e, hd⟩ := q; exact ⟨v, e, ob_mono f.ex hd⟩
    | own es =>
      obtain ⟨a, xs, e, ha, hh⟩ := q
      have e' : σ[i]? = some (some (.ref a)) := by
        cases z : σ[i]? with
        | none => rw [z] at e; cases e
        | some o => rw [z] at e; simp at e; rw [e]
      exact ⟨a, xs, e, (f.keep a _ ha (own i a ⟨⟨es, h⟩, e'⟩).2).1, dps_mono f.ex _ _ hh⟩
  · obtain ⟨xs, e⟩ := S.ownH (.inl ⟨i, z⟩)
    rw [(f.keep a _ e (own i a z).2).2]
    exact S.ownG i a z
  · rcases f.own a q with q | q
    · exact (own i a z).2 q
    · exact (own i a z).1 q
end
section
variable {X : Cx} {cl : String → Addr} {W : WX} {e : Expr} {es : List Expr} {fs : M (List R)} {pos : Pos}
theorem user_reads {K : PySem.W.Frag} {F : List R → Pw → FRes} {σ : L2.St} {H : Hp} {Q : VK} (q : tD K cl W (fUser F fs) σ H Q) : tCallS (spF K cl F) (WE W) (tAe K cl W fs) σ H Q := by
  obtain ⟨G, s, S, q⟩ := q
  refine ⟨G, s, S, out_mono (out_bind q) fun rs G1 s1 H1 st1 S1 k vs hv => ⟨G1, rs, s1.w, S1.gh, hv, S1.pw, ?_⟩⟩
  cases z : F rs s1.w with
  | ok r w' =>
    rw [z] at k
    intro v G' H' f pw fr
    obtain ⟨st, S'⟩ := call_stp S1 f pw
    refine k G' H' st S' v ?_
    cases r with
    | val d => exact fr
    | raw u => exact fr
    | ob o => exact fr
    | slot i => exact fr.elim
    | new ds =>
      obtain ⟨a, xs, e, ha, hd, hg, h0, hn⟩ := fr
      refine ⟨a, xs, e, ha, hd, hg, Classical.byContradiction fun z => st1.dom a z h0, fun z => ?_⟩
      rcases z with ⟨i, z⟩ | z
      · obtain ⟨ys, e2⟩ := S1.ownH (.inl ⟨i, z⟩)
        rw [h0] at e2; cases e2
      · exact hn z
  | err x w' =>
    rw [z] at k
    intro cls d G' H' f pw xr
    obtain ⟨st, S'⟩ := call_stp S1 f pw
    exact k cls d G' H' st S' xr
  | stuck => rw [z] at k; exact k
theorem d_user {F : List R → Pw → FRes} {k : Nat} {f : Addr} {fd : FuncData} {ps : List Str} {x : Str} {p : Pos} (hF : FnG X.prog X.w X.K X.mg X.base (L2.CX X.prog X.w) k f fd ps (spF X.K cl F)) (hr : RoomG k X.A) (hg : Gl X x) (hm : X.mg x = some (.ref f)) (hk : PySem.W.keepIn X.K (.ref f) = true) (hb : Binds X.K fd ps [])
    (hx : ∀ σ, PassesAt (L2.CX X.prog X.w) X σ (WE W σ)) (ha : DAe X cl W (e :: es) fs) (hdb : (x == ("__debug__" : Str)) = false := by decide) (he : starEach (e :: es) X.env = (false, eval e X.env) :: starEach es X.env := by rfl) (hpl : (backTo pos (starEach es X.env)).any (·.1) = false := by rfl) :
    DE X cl W (.Call (.Name x p) (e :: es) [] pos) (fUser F fs) := pe_imp (pe_callG hF hr hg hm hk hb hx ha hdb he hpl) fun σ H Q q => user_reads q
/-- within a comprehension nothing is let out -/
theorem passA0 {X : Cx} (σ : L2.St) : PassesAt (L2.CX X.prog X.w) X σ (WE W0 σ) := fun _ _ _ _ _ _ h => by
  obtain ⟨_, _, _, _, _, _, _, _, _, _, _, _, z⟩ := h
  exact z.elim
end
/-! ### a def -/
def toSl : R → Sl
  | .val d => .val d
  | .raw v => .raw v
  | .ob o => .ob o
  | _ => .no
def finR (r : R) (s : DSt) : Option R := match r with
  | .slot i => match s.d[i]? with
    | some (.own ds) => some (.new ds)
    | some (.val d) => some (.val d)
    | _ => none
  | r => some r
def runF (n nps : Nat) (p : DSt → Flow) : List R → Pw → FRes := fun rs w => if rs.length = nps then match p ⟨rs.map toSl ++ List.replicate (n - nps) .no, w⟩ with
  | .next s => .ok (.val .none) s.w
  | .ret r s => match finR r s with
    | some r' => .ok r' s.w
    | none => .stuck
  | .err x s => .err x s.w
  | _ => .stuck
  else .stuck
section
variable {K : PySem.W.Frag} {cl : String → Addr}
theorem pair_len {G : Hp} : ∀ {vs : List V} {rs : List R}, Paired (AR K G) vs rs → vs.length = rs.length
  | _, _, .nil => rfl
  | _, _, .cons _ t => by simp [pair_len t]
theorem pair_get {G : Hp} : ∀ {vs : List V} {rs : List R} {i : Nat} {r : R}, Paired (AR K G) vs rs → rs[i]? = some r → ∃ v, vs[i]? = some v ∧ AR K G v r
  | _, _, _, _, .nil, e => by simp at e
  | _, _, 0, r, .cons h t, e => by simp at e; subst e; exact ⟨_, rfl, h⟩
  | _, _, i + 1, r, .cons h t, e => by simpa using pair_get (i := i) t (by simpa using e)
theorem start_sa {G H : Hp} {N : List Str} {vs : List V} {rs : List R} {w : Pw} {nps : Nat} (gh : Ex G H) (hv : Paired (AR K G) vs rs) (pw : PwOk G w H) (hn : rs.length = nps) (hN : nps ≤ N.length) : SA K G ⟨rs.map toSl ++ List.replicate (N.length - nps) .no, w⟩ (L2.start N vs) H := by
  have hl := pair_len hv
  have no : ∀ (i : Nat) ds, (rs.map toSl ++ List.replicate (N.length - nps) Sl.no)[i]? ≠ some (.own ds) := by
    intro i ds e
    rw [List.getElem?_append] at e
    split at e
    · rw [List.getElem?_map] at e
      cases q : rs[i]? with
      | none => rw [q] at e; cases e
      | some r => rw [q] at e; cases r <;> cases e
    · rw [List.getElem?_replicate] at e
      split at e <;> cases e
  refine ⟨by simp [L2.start, hl]; omega, gh, fun i sl h => ?_, fun i j a h _ => ?_, fun i a h => ?_, pw, fun i a h => ?_⟩
  · cases sl with
    | no => trivial
    | own ds => exact (no i ds h).elim
    | val d =>
      simp only [List.getElem?_append] at h
      split at h
      · rename_i hi
        rw [List.getElem?_map] at h
        cases q : rs[i]? with
        | none => rw [q] at h; cases h
        | some r =>
          rw [q] at h
          obtain ⟨v, e, ar⟩ := pair_get hv q
          have hi' : i < (vs.map some).length := by simp at hi ⊢; omega
          cases r with
          | val d' =>
            cases h
            refine ⟨v, ?_, ar⟩
            simp only [L2.start, List.getElem?_append, hi', if_true, List.getElem?_map, e]
            rfl
          | raw u => cases h
          | ob u => cases h
          | new u => cases h
          | slot u => cases h
      · rw [List.getElem?_replicate] at h
        split at h <;> cases h
    | ob d =>
      simp only [List.getElem?_append] at h
      split at h
      · rename_i hi
        rw [List.getElem?_map] at h
        cases q : rs[i]? with
        | none => rw [q] at h; cases h
        | some r =>
          rw [q] at h
          obtain ⟨v, e, ar⟩ := pair_get hv q
          have hi' : i < (vs.map some).length := by simp at hi ⊢; omega
          cases r with
          | ob d' =>
            cases h
            refine ⟨v, ?_, ar⟩
            simp only [L2.start, List.getElem?_append, hi', if_true, List.getElem?_map, e]
            rfl
          | raw u => cases h
          | val u => cases h
          | new u => cases h
          | slot u => cases h
      · rw [List.getElem?_replicate] at h
        split at h <;> cases h
    | raw u =>
      simp only [List.getElem?_append] at h
      split at h
      · rename_i hi
        rw [List.getElem?_map] at h
        cases q : rs[i]? with
        | none => rw [q] at h; cases h
        | some r =>
          rw [q] at h
          obtain ⟨v, e, ar⟩ := pair_get hv q
          have hi' : i < (vs.map some).length := by simp at hi ⊢; omega
          cases r with
          | raw u' =>
            cases h
            have ar : v = _ := ar
            subst ar
            show (L2.start N vs)[i]?.join = _
            simp only [L2.start, List.getElem?_append, hi', if_true, List.getElem?_map, e]
            rfl
          | val u => cases h
          | ob u => cases h
          | new u => cases h
          | slot u => cases h
      · rw [List.getElem?_replicate] at h
        split at h <;> cases h
  · obtain ⟨⟨ds, e⟩, _⟩ := h; exact (no i ds e).elim
  · obtain ⟨⟨ds, e⟩, _⟩ := h; exact (no i ds e).elim
  · obtain ⟨⟨ds, e⟩, _⟩ := h; exact (no i ds e).elim
theorem start_own {rs : List R} {n : Nat} {w : Pw} {σ : L2.St} {a : Addr} (h : Own ⟨rs.map toSl ++ List.replicate n .no, w⟩ σ a) : POwn w a := by
  rcases h with ⟨i, ⟨ds, e⟩, _⟩ | h
  · exfalso
    simp only [List.getElem?_append] at e
    split at e
    · rw [List.getElem?_map] at e
      cases q : rs[i]? with
      | none => rw [q] at e; cases e
      | some r => rw [q] at e; cases r <;> cases e
    · rw [List.getElem?_replicate] at e
      split at e <;> cases e
  · exact h
theorem fstp_of {G H G' H' : Hp} {rs : List R} {n : Nat} {w : Pw} {σ σ' : L2.St} {s' : DSt} (st : Stp G ⟨rs.map toSl ++ List.replicate n .no, w⟩ σ H G' s' σ' H') (S' : SA K G' s' σ' H') : FStp G w H G' s'.w H' :=
  ⟨st.ex, S'.gh, fun a o h nw => st.keep a o h fun z => nw (start_own z), fun a z => (st.own a (.inr z)).imp start_own id, st.dom, st.pw⟩
/-- THE RULE for a def -/
theorem def_ok {P : Program} {w : World} {mg : Str → Option Value} {base : Heap} {x qual : Str} {st : Stmt} {f : Addr} {fd : FuncData} {N ps : List Str} {k : Nat} {p : DSt → Flow} (F : Fun K x qual st f fd) (S : FnScope N ps (defScope st)) (hN : ps.length ≤ N.length)
    (hb : ∀ (cdv : Value) (A : Around) (outer : List Env) (s : Shared) (H : Hp) (E : XK), RoomG k (A.deeper (envOfC qual (defScope st) s.heap.objs.size f cdv)) →
      DSs (cxOf (L2.CX P w) P w K mg base N qual (defScope st) f cdv A outer s H E) cl (fun cls d _ H => E cls d H) (defBody st) p) : FnG P w K mg base (L2.CX P w) (k + 1) f fd ps (spF K cl (runF N.length ps.length p)) := by
  have hlen : ∀ {rs : List R} {w : Pw}, (match runF N.length ps.length p rs w with | .stuck => False | _ => True) → rs.length = ps.length := by
    intro rs w h
    unfold runF at h
    split at h
    · exact h.elim
    · rename_i z
      by_cases q : rs.length = ps.length
      · exact q
      · rw [if_neg q] at z; exact absurd rfl z
  refine okG F S (fun vs H Q E h => ?_) fun cdv A outer s H vs Q E hr h => ⟨_, hb cdv A outer s H E hr, ?_⟩
  · obtain ⟨G, rs, w, gh, hv, pw, k⟩ := h
    rw [pair_len hv]
    refine hlen (w := w) ?_
    cases z : runF N.length ps.length p rs w with
    | ok r w' => trivial
    | err x w' => trivial
    | stuck => rw [z] at k; exact k
  · obtain ⟨G, rs, w, gh, hv, pw, k⟩ := h
    have hn : rs.length = ps.length := by
      refine hlen (w := w) ?_
      cases z : runF N.length ps.length p rs w with
      | ok r w' => trivial
      | err x w' => trivial
      | stuck => rw [z] at k; exact k
    refine ⟨G, ⟨rs.map toSl ++ List.replicate (N.length - ps.length) .no, w⟩, show SA K G _ (L2.start N vs) H from start_sa gh hv pw hn hN, ?_⟩
    unfold runF at k
    rw [if_pos hn] at k
    cases z : p ⟨rs.map toSl ++ List.replicate (N.length - ps.length) .no, w⟩ with
    | next s' => rw [z] at k; exact fun G' σ' H' st S' => k .non G' H' (fstp_of st S') S'.pw .non
    | brk s' => rw [z] at k; exact k.elim
    | cnt s' => rw [z] at k; exact k.elim
    | stuck => rw [z] at k; exact k.elim
    | err x s' => rw [z] at k; exact fun cls d G' σ' H' st S' xr => k cls d G' H' (fstp_of st S') S'.pw xr
    | ret r s' =>
      rw [z] at k
      intro v G' σ' H' st S' rr
      cases r with
      | val d => exact k v G' H' (fstp_of st S') S'.pw rr
      | raw u => exact k v G' H' (fstp_of st S') S'.pw rr
      | ob o => exact k v G' H' (fstp_of st S') S'.pw rr
      | new ds =>
        refine k v G' H' (fstp_of st S') S'.pw ?_
        obtain ⟨a, xs, e, ha, hd, hg, h0, hn⟩ := rr
        exact ⟨a, xs, e, ha, hd, hg, h0, fun z => hn (.inr z)⟩
      | slot i =>
        have rr : σ'[i]? = some (some v) := rr
        dsimp only [finR] at k
        cases q : s'.d[i]? with
        | none => rw [q] at k; exact k.elim
        | some sl =>
          rw [q] at k
          cases sl with
          | no => exact k.elim
          | raw u => exact k.elim
          | ob o => exact k.elim
          | val d =>
            refine k v G' H' (fstp_of st S') S'.pw ?_
            obtain ⟨u, e, hd⟩ := S'.slot i _ q
            rw [rr] at e
            cases e
            exact hd
          | own ds =>
            refine k v G' H' (fstp_of st S') S'.pw ?_
            obtain ⟨a, xs, e, ha, hd⟩ := S'.slot i _ q
            rw [rr] at e
            cases e
            have ho : OwnAt s' σ' i a := ⟨⟨ds, q⟩, rr⟩
            refine ⟨a, xs, rfl, ha, hd, S'.ownG i a ho, ?_, S'.pne i a ho⟩
            rcases st.own a (.inl ⟨i, ho⟩) with z | z
            · have z := start_own z
              exact absurd (st.pw a z) (S'.pne i a ho)
            · exact z
end
end DL

/-! DL11: methods of lists, isinstance, small statements -/
noncomputable section
namespace DL
open PySem L2 PyProof.Rows
open Evl (Ex)
section
variable {K : PySem.W.Frag} {G H : Hp} {s : DSt} {σ : L2.St}
/-- an own list's content is changed -/
theorem own_write {i : Nat} {ds ds' : List PyData} {a : Addr} {xs' : List V} (S : SA K G s σ H) (h : s.d[i]? = some (.own ds)) (e : σ[i]? = some (some (.ref a))) (hd : RpAll K G xs' ds') :
    Stp G s σ H G (putS i (.own ds') s) σ (upd H a (.lst xs')) ∧ SA K G (putS i (.own ds') s) σ (upd H a (.lst xs')) := by
  have il : i < s.d.length := (List.getElem?_eq_some_iff.mp h).1
  have ho : OwnAt s σ i a := ⟨⟨ds, h⟩, e⟩
  have hg := S.ownG i a ho
  have od : ∀ j b, OwnAt (putS i (.own ds') s) σ j b → OwnAt s σ j b := by
    rintro j b ⟨⟨es, q⟩, z⟩
    by_cases w : j = i
    · subst w; exact ⟨⟨ds, h⟩, z⟩
    · simp only [putS, List.getElem?_set_ne (Ne.symm w)] at q; exact ⟨⟨es, q⟩, z⟩
  have ow : ∀ b, Own (putS i (.own ds') s) σ b → Own s σ b := fun b z => z.imp (fun ⟨j, z⟩ => ⟨j, od j b z⟩) id
  refine ⟨⟨Ex.refl G, fun b o hb nb => ⟨?_, rfl⟩, fun b z => .inl (ow b z), fun b hb => ?_, fun _ z => z⟩, ⟨by simp [putS, S.len], fun b u hb => ?_, fun j sl hj => ?_, fun j k b h1 h2 => S.inj j k b (od j b h1) (od k b h2), fun j b z => S.ownG j b (od j b z), ?_, fun j b z => S.pne j b (od j b z)⟩⟩
  · rw [upd_ne fun z => nb (by subst z; exact .inl ⟨i, ho⟩)]; exact hb
  · by_cases z : b = a
    · subst z; rw [upd_same]; simp
    · rw [upd_ne z]; exact hb
  · rw [upd_ne fun z => by subst z; rw [hg] at hb; cases hb]; exact S.gh b u hb
  · by_cases w : j = i
    · subst w
      simp only [putS, List.getElem?_set_self il] at hj
      cases hj
      exact ⟨a, xs', by rw [e] <;> rfl, upd_same, hd⟩
    · simp only [putS, List.getElem?_set_ne (Ne.symm w)] at hj
      have q := S.slot j sl hj
      cases sl with
      | no => trivial
      | val d => exact q
      | raw v => exact q
      | ob o => exact q
      | own es =>
        obtain ⟨b, ys, e2, hb, hh⟩ := q
        refine ⟨b, ys, e2, ?_, hh⟩
        have e3 : σ[j]? = some (some (.ref b)) := by
          cases z : σ[j]? with
          | none => rw [z] at e2; cases e2
          | some o => rw [z] at e2; simp at e2; rw [e2]
        rw [upd_ne fun z => w (by subst z; exact S.inj j i b ⟨⟨es, hj⟩, e3⟩ ho)]
        exact hb
  · have q := S.pw
    have pn := S.pne i a ho
    unfold PwOk at q ⊢
    split
    · trivial
    · rename_i pa ca cells t e4
      have e4 : s.w = some (pa, ca, cells, t) := e4
      rw [e4] at q pn
      exact ⟨q.1, by rw [upd_ne fun z => pn (.inl z.symm)]; exact q.2.1, by rw [upd_ne fun z => pn (.inr z.symm)]; exact q.2.2.1, q.2.2.2⟩
theorem own_at {i : Nat} {ds : List PyData} (S : SA K G s σ H) (h : s.d[i]? = some (.own ds)) : ∃ a xs, σ[i]? = some (some (.ref a)) ∧ H a = some (.lst xs) ∧ RpAll K G xs ds := by
  obtain ⟨a, xs, e, ha, hd⟩ := S.slot i _ h
  refine ⟨a, xs, ?_, ha, hd⟩
  cases z : σ[i]? with
  | none => rw [z] at e; cases e
  | some o => rw [z] at e; simp at e; rw [e]
end
theorem intsAre_vals' : ∀ {ns : List Int} {us : List Value}, Vals (ns.map V.int) us → PyProof.Rows.IntsAre us ns
  | [], _, .nil => .nil
  | n :: ns, _, .cons r t => by
    obtain ⟨k, rfl⟩ := r
    exact .cons n k (intsAre_vals' t)
/-- x.append(e) -/
def isOwn (i : Nat) (s : DSt) : Bool := match s.d[i]? with
  | some (.own _) => true
  | _ => false
def fApp (i : Nat) (f : M R) : M R := fun s => if isOwn i s then bnd f (fun r => bnd (fEsc r) fun r' s' => match r', s'.d[i]? with
    | .val d, some (.own ds) => if ltS (ds.length) then .ok (.val .none) (putS i (.own (ds ++ [d])) s') else .stuck
    | _, _ => .stuck) s
  else .stuck
theorem isOwn_get {i : Nat} {s : DSt} (h : isOwn i s = true) : ∃ ds, s.d[i]? = some (.own ds) := by
  unfold isOwn at h
  split at h
  · exact ⟨_, by assumption⟩
  · cases h
section
variable {X : Cx} {cl : String → Addr} {W : WX} {e a b c : Expr} {es : List Expr} {f g : M R} {fs : M (List R)} {pos : Pos} {p q : DSt → Flow}
theorem d_append {i : Nat} {x : Expr} {ap cp : Pos} (hx : PE X x (tVar i)) (ha : DE X cl W e f) (hbase : attributeBase x "append" X.env (eval x X.env) = eval x X.env := by rfl)
    (hfew : ((backTo cp (starEach [e] X.env)).all (fun x => !x.1) && (backToKw cp (keywordEach [] X.env)).all (fun x => x.1.isSome) && decide (([e] : List Expr).length + ([] : List Keyword).length + (if ([] : List Keyword).isEmpty then 0 else 1) < 30)) = true := by rfl)
    (hline : (ap.endLine == cp.line) = true := by rfl) (hs : starEach [e] X.env = (false, eval e X.env) :: starEach [] X.env := by rfl) (hplain : (backTo cp (starEach [] X.env)).any (·.1) = false := by rfl) :
    DE X cl W (.Call (.Attribute x "append" ap) [e] [] cp) (fApp i f) := by
  refine pe_imp (pe_bm PySem.F.plainAttrs_list PySem.F.slot_list_append PySem.F.type_list_append mt_append hx (pa_cons ha pa_nil hs) hbase hfew hline hs hplain) fun σ H Q ⟨G, s, S, q⟩ => ?_
  unfold fApp at q
  split at q
  rotate_left
  · exact q.elim
  rename_i ho
  obtain ⟨ds0, h0⟩ := isOwn_get ho
  obtain ⟨l, xs0, el, hl0, _⟩ := own_at S h0
  refine ⟨.ref l, el, .inl ⟨rfl, _, .of hl0⟩, G, s, S, ?_⟩
  refine out_mono (out_esc q) fun r G1 s1 H1 st1 S1 k v rr => ?_
  obtain ⟨G2, s2, r2, st2, S2, ar, ex, k2⟩ := k v rr
  split at k2
  · rename_i d ds h2
    split at k2
    · rename_i hz
      obtain ⟨l2, xs, el2, hl2, hd2⟩ := own_at S2 h2
      rw [el] at el2
      cases el2
      obtain ⟨st3, S3⟩ := own_write S2 h2 el (dps_app hd2 (.cons ar .nil))
      exact ⟨l, xs, v, rfl, rfl, hl2, by rw [dps_len hd2]; exact hz, k2 _ _ st3 S3 _ .non⟩
    · exact k2.elim
  · exact k2.elim
/-- x.pop(), x.pop(k) -/
def fPop (i : Nat) : M R := fun s => match s.d[i]? with
  | some (.own ds) => match ds[ds.length - 1]? with
    | some d => .ok (.val d) (putS i (.own ds.dropLast) s)
    | none => .stuck
  | _ => .stuck
theorem dps_dropLast {K : PySem.W.Frag} {H : Hp} {ds : List PyData} {vs : List V} (h : RpAll K H vs ds) : RpAll K H vs.dropLast ds.dropLast := by
  rw [List.dropLast_eq_take, List.dropLast_eq_take, dps_len h]
  exact dps_take _ h
theorem dps_at {K : PySem.W.Frag} {G : Hp} {ds : List PyData} {vs : List V} {i : Nat} {d : PyData} (h : RpAll K G vs ds) (e : ds[i]? = some d) : ∃ v, vs[i]? = some v ∧ Rp K G v d := by
  have hi : i < vs.length := by rw [dps_len h]; exact (List.getElem?_eq_some_iff.mp e).1
  obtain ⟨d', e', r⟩ := dps_get h (List.getElem?_eq_getElem hi)
  rw [e] at e'
  cases e'
  exact ⟨_, List.getElem?_eq_getElem hi, r⟩
theorem d_pop {i : Nat} {x : Expr} {ap cp : Pos} (hx : PE X x (tVar i)) (hbase : attributeBase x "pop" X.env (eval x X.env) = eval x X.env := by rfl) (hline : (ap.endLine == cp.line) = true := by rfl) : DE X cl W (.Call (.Attribute x "pop" ap) [] [] cp) (fPop i) := by
  refine pe_imp (pe_bm0 PySem.F.plainAttrs_list PySem.F.slot_list_pop PySem.F.type_list_pop mt_pop hx hbase hline) fun σ H Q ⟨G, s, S, q⟩ => ?_
  unfold fPop at q
  split at q
  · rename_i ds h0
    obtain ⟨l, xs, el, hl0, hd⟩ := own_at S h0
    split at q
    · rename_i d e
      rw [← dps_len hd] at e
      obtain ⟨v, ev, rv⟩ := dps_at hd e
      obtain ⟨st, S'⟩ := own_write S h0 el (dps_dropLast hd)
      exact ⟨.ref l, el, .inl ⟨rfl, _, .of hl0⟩, l, xs, v, rfl, rfl, hl0, ev, q _ _ st S' v rv⟩
    · exact q.elim
  · exact q.elim
def fPopAt (i : Nat) (f : M R) : M R := fun s => if isOwn i s then bnd f (fun r s' => match look r s', s'.d[i]? with
    | some (.int k), some (.own ds) => match ixN ds.length k with
      | some j => match ds[j]? with
        | some d => if inW k then .ok (.val d) (putS i (.own (ds.eraseIdx j)) s') else .stuck
        | none => .stuck
      | none => .stuck
    | _, _ => .stuck) s
  else .stuck
theorem d_popAt {i : Nat} {x : Expr} {ap cp : Pos} (hx : PE X x (tVar i)) (ha : DE X cl W e f) (hbase : attributeBase x "pop" X.env (eval x X.env) = eval x X.env := by rfl)
    (hfew : ((backTo cp (starEach [e] X.env)).all (fun x => !x.1) && (backToKw cp (keywordEach [] X.env)).all (fun x => x.1.isSome) && decide (([e] : List Expr).length + ([] : List Keyword).length + (if ([] : List Keyword).isEmpty then 0 else 1) < 30)) = true := by rfl)
    (hline : (ap.endLine == cp.line) = true := by rfl) (hs : starEach [e] X.env = (false, eval e X.env) :: starEach [] X.env := by rfl) (hplain : (backTo cp (starEach [] X.env)).any (·.1) = false := by rfl) :
    DE X cl W (.Call (.Attribute x "pop" ap) [e] [] cp) (fPopAt i f) := by
  refine pe_imp (pe_bm PySem.F.plainAttrs_list PySem.F.slot_list_pop PySem.F.type_list_pop mt_popAt hx (pa_cons ha pa_nil hs) hbase hfew hline hs hplain) fun σ H Q ⟨G, s, S, q⟩ => ?_
  unfold fPopAt at q
  split at q
  rotate_left
  · exact q.elim
  rename_i ho
  obtain ⟨ds0, h0⟩ := isOwn_get ho
  obtain ⟨l, xs0, el, hl0, _⟩ := own_at S h0
  refine ⟨.ref l, el, .inl ⟨rfl, _, .of hl0⟩, G, s, S, ?_⟩
  refine out_mono (out_bind q) fun r G1 s1 H1 st1 S1 k v rr => ?_
  split at k
  · rename_i n ds e1 h1
    obtain rfl := dq_int (look_q S1 rr e1)
    split at k
    · rename_i j ej
      split at k
      · rename_i d ed
        split at k
        · rename_i hb
          obtain ⟨l2, xs, el2, hl2, hd2⟩ := own_at S1 h1
          rw [el] at el2
          cases el2
          obtain ⟨u, eu, ru⟩ := dps_at hd2 ed
          obtain ⟨st3, S3⟩ := own_write S1 h1 el (dps_erase j hd2)
          have hj := (ixN_seq ej).1
          exact ⟨l, xs, n, j, u, rfl, rfl, hl2, hb.1, hb.2, by rw [dps_len hd2]; exact hj, eu, k _ _ st3 S3 u ru⟩
        · exact k.elim
      · exact k.elim
    · exact k.elim
  · exact k.elim
/-- x.insert(k, e), 0 ≤ k -/
def fIns (i : Nat) (fs : M (List R)) : M R := fun s => if isOwn i s then bnd fs (fun rs s' => match rs, s'.d[i]? with
    | [.val (.int k), .val d], some (.own ds) => if 0 ≤ k ∧ inW k ∧ ltS (ds.length) then .ok (.val .none) (putS i (.own (ds.take k.toNat ++ [d] ++ ds.drop k.toNat)) s') else .stuck
    | _, _ => .stuck) s
  else .stuck
theorem d_insert {i : Nat} {x : Expr} {ap cp : Pos} (hx : PE X x (tVar i)) (ha : DAe X cl W (a :: [b]) fs) (hbase : attributeBase x "insert" X.env (eval x X.env) = eval x X.env := by rfl)
    (hfew : ((backTo cp (starEach [a, b] X.env)).all (fun x => !x.1) && (backToKw cp (keywordEach [] X.env)).all (fun x => x.1.isSome) && decide (([a, b] : List Expr).length + ([] : List Keyword).length + (if ([] : List Keyword).isEmpty then 0 else 1) < 30)) = true := by rfl)
    (hline : (ap.endLine == cp.line) = true := by rfl) (hs : starEach [a, b] X.env = (false, eval a X.env) :: starEach [b] X.env := by rfl) (hplain : (backTo cp (starEach [b] X.env)).any (·.1) = false := by rfl) :
    DE X cl W (.Call (.Attribute x "insert" ap) [a, b] [] cp) (fIns i fs) := by
  refine pe_imp (pe_bm PySem.F.plainAttrs_list PySem.F.slot_list_insert PySem.F.type_list_insert mt_insert hx ha hbase hfew hline hs hplain) fun σ H Q ⟨G, s, S, q⟩ => ?_
  unfold fIns at q
  split at q
  rotate_left
  · exact q.elim
  rename_i ho
  obtain ⟨ds0, h0⟩ := isOwn_get ho
  obtain ⟨l, xs0, el, hl0, _⟩ := own_at S h0
  refine ⟨.ref l, el, .inl ⟨rfl, _, .of hl0⟩, G, s, S, ?_⟩
  refine out_mono (out_bind q) fun rs G1 s1 H1 st1 S1 k vs hv => ?_
  split at k
  · rename_i n d ds h1
    split at k
    · rename_i hb
      cases hv with
      | cons r1 r2 =>
        cases r2 with
        | cons r2 r3 =>
          cases r3
          cases (show Rp X.K G1 _ (.int n) from r1)
          obtain ⟨l2, xs, el2, hl2, hd2⟩ := own_at S1 h1
          rw [el] at el2
          cases el2
          obtain ⟨st3, S3⟩ := own_write S1 h1 el (dps_app (dps_app (dps_take n.toNat hd2) (.cons r2 .nil)) (dps_drop n.toNat hd2))
          exact ⟨l, xs, n, _, rfl, rfl, hl2, by rw [dps_len hd2]; exact hb.2.2, hb.1, hb.2.1.2, k _ _ st3 S3 _ .non⟩
    · exact k.elim
  · exact k.elim
/-- x.remove(k): ints -/
def fRem (i : Nat) (f : M R) : M R := fun s => if isOwn i s then bnd f (fun r s' => match look r s', s'.d[i]? with
    | some (.int k), some (.own ds) => match intsD ds with
      | some ns => match ns.findIdx? (· == k) with
        | some j => .ok (.val .none) (putS i (.own ((ns.eraseIdx j).map .int)) s')
        | none => .stuck
      | none => .stuck
    | _, _ => .stuck) s
  else .stuck
theorem d_remove {i : Nat} {x : Expr} {ap cp : Pos} (hx : PE X x (tVar i)) (ha : DE X cl W e f) (hbase : attributeBase x "remove" X.env (eval x X.env) = eval x X.env := by rfl)
    (hfew : ((backTo cp (starEach [e] X.env)).all (fun x => !x.1) && (backToKw cp (keywordEach [] X.env)).all (fun x => x.1.isSome) && decide (([e] : List Expr).length + ([] : List Keyword).length + (if ([] : List Keyword).isEmpty then 0 else 1) < 30)) = true := by rfl)
    (hline : (ap.endLine == cp.line) = true := by rfl) (hs : starEach [e] X.env = (false, eval e X.env) :: starEach [] X.env := by rfl) (hplain : (backTo cp (starEach [] X.env)).any (·.1) = false := by rfl) :
    DE X cl W (.Call (.Attribute x "remove" ap) [e] [] cp) (fRem i f) := by
  refine pe_imp (pe_bm PySem.F.plainAttrs_list PySem.F.slot_list_remove PySem.F.type_list_remove mt_remove hx (pa_cons ha pa_nil hs) hbase hfew hline hs hplain) fun σ H Q ⟨G, s, S, q⟩ => ?_
  unfold fRem at q
  split at q
  rotate_left
  · exact q.elim
  rename_i ho
  obtain ⟨ds0, h0⟩ := isOwn_get ho
  obtain ⟨l, xs0, el, hl0, _⟩ := own_at S h0
  refine ⟨.ref l, el, .inl ⟨rfl, _, .of hl0⟩, G, s, S, ?_⟩
  refine out_mono (out_bind q) fun r G1 s1 H1 st1 S1 k v rr => ?_
  split at k
  · rename_i n ds e1 h1
    obtain rfl := dq_int (look_q S1 rr e1)
    split at k
    · rename_i ns en
      split at k
      · rename_i j ej
        obtain ⟨l2, xs, el2, hl2, hd2⟩ := own_at S1 h1
        rw [el] at el2
        cases el2
        have ex := ints_rp hd2 en
        subst ex
        obtain ⟨hj, h3, h4⟩ := List.findIdx?_eq_some_iff_getElem.mp ej
        obtain ⟨st3, S3⟩ := own_write S1 h1 el (rp_ints (K := X.K) (G := G1) (ns.eraseIdx j))
        refine ⟨l, ns, n, j, rfl, rfl, hl2, ?_, fun m hm => ?_, k _ _ st3 S3 _ .non⟩
        · rw [List.getElem?_eq_getElem hj]; simpa using h3
        · have h5 := h4 m hm
          rw [List.getElem?_eq_getElem (by omega)]
          simpa using h5
      · exact k.elim
    · exact k.elim
  · exact k.elim
/-- x.clear() -/
def fClear (i : Nat) : M R := fun s => match s.d[i]? with
  | some (.own ds) => .ok (.val .none) (putS i (.own []) s)
  | _ => .stuck
theorem d_clear {i : Nat} {x : Expr} {ap cp : Pos} (hx : PE X x (tVar i)) (hbase : attributeBase x "clear" X.env (eval x X.env) = eval x X.env := by rfl) (hline : (ap.endLine == cp.line) = true := by rfl) : DE X cl W (.Call (.Attribute x "clear" ap) [] [] cp) (fClear i) := by
  refine pe_imp (pe_bm0 PySem.F.plainAttrs_list PySem.F.slot_list_clear PySem.F.type_list_clear mt_clear hx hbase hline) fun σ H Q ⟨G, s, S, q⟩ => ?_
  unfold fClear at q
  split at q
  · rename_i ds h0
    obtain ⟨l, xs, el, hl0, hd⟩ := own_at S h0
    obtain ⟨st, S'⟩ := own_write S h0 el (.nil)
    exact ⟨.ref l, el, .inl ⟨rfl, _, .of hl0⟩, l, xs, rfl, rfl, hl0, q _ _ st S' _ .non⟩
  · exact q.elim
/-- x.index(e), flat -/
def flatD : PyData → Bool
  | .none | .bool _ | .int _ | .str _ => true
  | _ => false
theorem flat_v {K : PySem.W.Frag} {G : Hp} {v : V} {d : PyData} (h : Rp K G v d) (f : flatD d = true) : flatV v = true := by
  cases h <;> first | rfl | cases f
theorem eqv_flat {K : PySem.W.Frag} {G : Hp} {v u : V} {d e : PyData} (h : Rp K G v d) (h2 : Rp K G u e) (f : flatD d = true) (f2 : flatD e = true) : eqV v u = PyData.eqv d e := by
  cases h <;> first | (cases f; done) | (cases h2 <;> first | (cases f2; done) | rfl | simp [eqV, PyData.eqv])
def idxO (ds : List PyData) (d : PyData) : Option Nat := if ds.all flatD && flatD d then ds.findIdx? (fun z => PyData.eqv z d) else none
def isLst (x : R) (s : DSt) : Bool := match look x s with
  | some (.list _) => true
  | _ => false
def fIndex (g f : M R) : M R := bnd g fun x s => if isLst x s then bnd f (fun r s => match look x s, look r s with
  | some (.list ds), some d => match idxO ds d with
    | some j => .ok (.val (.int (j : Nat))) s
    | none => .stuck
  | _, _ => .stuck) s
  else .stuck
theorem isLst_ty {K : PySem.W.Frag} {H0 G H : Hp} {s : DSt} {σ : L2.St} {v : V} {x : R} (S : SA K G s σ H) (h : RRel K H0 G s σ H v x) (e : isLst x s = true) : tyV K "list" v H := by
  unfold isLst at e
  split at e
  · rename_i ds q
    obtain ⟨p, xs, rfl, hp, _⟩ := dq_lst (look_q S h q)
    exact .inl ⟨rfl, _, .of hp⟩
  · cases e
theorem d_index {ap cp : Pos} (hx : DE X cl W a g) (ha : DE X cl W e f) (hbase : attributeBase a "index" X.env (eval a X.env) = eval a X.env := by rfl)
    (hfew : ((backTo cp (starEach [e] X.env)).all (fun x => !x.1) && (backToKw cp (keywordEach [] X.env)).all (fun x => x.1.isSome) && decide (([e] : List Expr).length + ([] : List Keyword).length + (if ([] : List Keyword).isEmpty then 0 else 1) < 30)) = true := by rfl)
    (hline : (ap.endLine == cp.line) = true := by rfl) (hs : starEach [e] X.env = (false, eval e X.env) :: starEach [] X.env := by rfl) (hplain : (backTo cp (starEach [] X.env)).any (·.1) = false := by rfl) :
    DE X cl W (.Call (.Attribute a "index" ap) [e] [] cp) (fIndex g f) := by
  refine pe_imp (pe_bm PySem.F.plainAttrs_list PySem.F.slot_list_index PySem.F.type_list_index mt_index hx (pa_cons ha pa_nil hs) hbase hfew hline hs hplain) fun σ H Q ⟨G, s, S, q⟩ => ?_
  refine ⟨G, s, S, out_mono (out_bind q) fun x G1 s1 H1 st1 S1 k v rr => ?_⟩
  split at k
  rotate_left
  · exact k.elim
  rename_i hl
  refine ⟨isLst_ty S1 rr hl, G1, s1, S1, out_mono (out_bind k) fun r G2 s2 H2 st2 S2 k2 u ru => ?_⟩
  have rr2 := rr.mono st2
  split at k2
  · rename_i ds d e1 e2
    split at k2
    · rename_i j ej
      obtain ⟨p, xs, rfl, hp, hd⟩ := dq_lst (look_q S2 rr2 e1)
      have hu := look_q S2 ru e2
      unfold idxO at ej
      split at ej
      rotate_left
      · cases ej
      rename_i hf
      rw [Bool.and_eq_true] at hf
      have hu' : Rp X.K G2 u d := by
        cases d with
        | list _ => cases hf.2
        | _ => exact hu
      obtain ⟨hj, h3, h4⟩ := List.findIdx?_eq_some_iff_getElem.mp ej
      have hxl := dps_len hd
      have fl : ∀ z ∈ xs, flatV z = true := fun z hz => by
        obtain ⟨m, hm, rfl⟩ := List.mem_iff_getElem.mp hz
        obtain ⟨d', e', r'⟩ := dps_get hd (List.getElem?_eq_getElem hm)
        exact flat_v r' (List.all_eq_true.mp hf.1 _ (List.mem_of_getElem? e'))
      have ev : ∀ (m : Nat) (z : V), xs[m]? = some z → ∃ d', ds[m]? = some d' ∧ eqV z u = PyData.eqv d' d := fun m z hz => by
        obtain ⟨d', e', r'⟩ := dps_get hd hz
        exact ⟨d', e', eqv_flat r' hu' (List.all_eq_true.mp hf.1 _ (List.mem_of_getElem? e')) hf.2⟩
      have hj' : j < xs.length := by omega
      obtain ⟨d1, f1, f2⟩ := ev j _ (List.getElem?_eq_getElem hj')
      rw [List.getElem?_eq_getElem hj] at f1
      cases f1
      refine ⟨p, xs, u, j, xs[j], rfl, rfl, .of hp, flat_v hu' hf.2, List.all_eq_true.mpr fl, List.getElem?_eq_getElem hj', by rw [f2]; exact h3, fun m z hm hz => ?_, k2 G2 H2 Stp.refl S2 _ (.int _)⟩
      obtain ⟨d2, g1, g2⟩ := ev m z hz
      rw [g2]
      have h5 := h4 m hm
      have hm2 : m < ds.length := by omega
      rw [List.getElem?_eq_getElem hm2] at g1
      cases g1
      simpa using h5
    · exact k2.elim
  · exact k2.elim
/-- isinstance(x, T), T a built-in class -/
def tyN : PyData → String
  | .none => "NoneType" | .bool _ => "bool" | .int _ => "int" | .str _ => "str" | .list _ => "list" | .tuple _ => "tuple" | .dict _ => "dict"
theorem ty_of {K : PySem.W.Frag} {G H : Hp} {v : V} {d : PyData} (x : Ex G H) (h : Dq K G H v d) : TyX K H v (.type (tyN d)) := by
  cases d with
  | none => cases (show Rp K G v .none from h); exact .base .non
  | bool b => obtain rfl := dq_bl h; exact .base (.bl b)
  | int b => obtain rfl := dq_int h; exact .base (.int b)
  | str b => obtain rfl := dq_str h; exact .base (.str b)
  | list ds => obtain ⟨p, xs, rfl, hp, _⟩ := dq_lst h; exact .base (.lst hp)
  | tuple ds =>
    obtain ⟨p, xs, rfl, hp, _⟩ := dq_tup x h
    rcases hp with (hp | ⟨o, hp⟩) | ⟨o, its, n, hk, hc, _⟩
    · exact .base (.tup hp)
    · exact .fTuple hp
    · exact .kTuple hk hc
  | dict kvs => cases (show Rp K G v (.dict kvs) from h)
def isN (n a : String) : Bool := n == a || (n == "int" && a == "bool")
def isT (n : String) (d : PyData) : Bool := isN n (tyN d)
def knownT (n : String) : Bool := ["int", "bool", "str", "list", "tuple"].contains n
theorem kit_tab : ∀ n ∈ ["int", "bool", "str", "list", "tuple"], ∀ a ∈ ["NoneType", "bool", "int", "str", "list", "tuple", "dict"], kitB a n = some (isN n a) := by decide +kernel
theorem kit_is {n : String} {d : PyData} (hn : knownT n = true) : kitB (tyN d) n = some (isT n d) :=
  kit_tab n (by simpa [knownT] using hn) _ (by cases d <;> simp [tyN])
def fIsi (n : String) (f : M R) : M R := bnd f fun r s => match look r s with
  | some d => .ok (.val (.bool (isT n d))) s
  | none => .stuck
theorem d_isi {n : Str} {m : String} {p p2 pos : Pos} (hn : knownT m = true) (hg : Gl X "isinstance") (hm : X.mg "isinstance" = none) (ha : DE X cl W e f) (hc : PE X (.Name n p2) (tC (.ty m)))
    (he : starEach (e :: [.Name n p2]) X.env = (false, eval e X.env) :: starEach [.Name n p2] X.env := by rfl) (he2 : starEach [.Name n p2] X.env = (false, eval (.Name n p2) X.env) :: starEach [] X.env := by rfl) (hpl : (backTo pos (starEach [.Name n p2] X.env)).any (·.1) = false := by rfl) :
    DE X cl W (.Call (.Name "isinstance" p) [e, .Name n p2] [] pos) (fIsi m f) := by
  refine pe_imp (pe_callB call_isi hg hm (by decide +kernel) (pa_cons ha (pa_cons hc pa_nil he2) he) (by decide) (by decide) he hpl) fun σ H Q ⟨G, s, S, q⟩ => ?_
  refine ⟨G, s, S, out_mono (out_bind q) fun x G1 s1 H1 st1 S1 k v rr => ?_⟩
  split at k
  · rename_i d e
    exact ⟨v, .ty m, .type (tyN d), .type m, isT m d, rfl, .ty m, ty_of S1.gh (look_q S1 rr e), kit_ty (kit_is hn), k G1 H1 Stp.refl S1 _ (.bl _)⟩
  · exact k.elim
/-- len(set(e)), ints -/
def nubI (ns : List Int) : List Int := PyProof.Rows.firstMet (fun i => ns.getD i 0) ns.length
def fLenSet (f : M R) : M R := bnd f fun r s => match look r s with
  | some (.list ds) => match intsD ds with
    | some ns => if ns.length ≤ 4000 then .ok (.val (.int (nubI ns).length)) s else .stuck
    | none => .stuck
  | _ => .stuck
theorem d_lenSet {p p2 q pos : Pos} (hcalm : X.calm = true) (hg : Gl X "len") (hm : X.mg "len" = none) (hg2 : Gl X "set") (hm2 : X.mg "set" = none) (ha : DE X cl W a f)
    (na : starEach [a] X.env = (false, eval a X.env) :: starEach [] X.env := by rfl) : DE X cl W (.Call (.Name "len" p) [.Call (.Name "set" p2) [a] [] q] [] pos) (fLenSet f) := by
  refine ⟨fun pins s σ H Q I ⟨G, st, S, h⟩ => ?_⟩
  have hc : X.A.handled = none := I.ok.hd hcalm
  refine Call_ (ld_blt I hg hm boot_len ?_)
  refine PyProof.Rows.callWith_builtin1 (PyProof.Rows.args_cons ?_ rfl) rfl rfl
  refine Call_ (ld_blt I hg2 hm2 boot_set ?_)
  have h1 : tD X.K cl W f σ H fun v H1 => ∃ (l : Addr) (ns : List Int), v = .ref l ∧ SqL X.K H1 l (ns.map V.int) ∧ ns.length ≤ 4000 ∧ Q (.int (nubI ns).length) H1 := by
    refine ⟨G, st, S, out_mono (out_bind h) fun x G1 s1 H1 st1 S1 k v rr => ?_⟩
    split at k
    · rename_i ds e1
      split at k
      · rename_i ns en
        split at k
        · rename_i hl
          obtain ⟨l, xs, rfl, hp, hd⟩ := dq_lst (look_q S1 rr e1)
          have ex := ints_rp hd en
          subst ex
          exact ⟨l, ns, rfl, .of hp, hl, k G1 H1 Stp.refl S1 _ (.int _)⟩
        · exact k.elim
      · exact k.elim
    · exact k.elim
  refine PyProof.Rows.callWith_type1 (PyProof.Rows.args_cons (thn (ha.run pins s σ H _ I h1) fun v s1 ⟨x, H1, I1, r1, q1⟩ => PyProof.Rows.args_nil ?_) na) na rfl
  obtain ⟨l, ns, rfl, hq, hl, q1⟩ := q1
  cases r1
  obtain ⟨its, r, pl, hz⟩ := I1.list hq
  have hlen : its.toArray.size = ns.length := by rw [List.size_toArray, ← r.length, List.length_map]
  refine call_set_list hc pl.isList (by simpa using intsAre_vals' r) (by rw [hlen]; unfold scanBound; omega) fun h' tk hS hk => ?_
  refine PyProof.Rows.args_nil ?_
  rw [hlen] at hS
  obtain ⟨o, es, ep, t, ho, hex, hd, _, _, _, hf, hn⟩ := hS
  have I2 : Inv X pins σ H1 { s1 with heap := h', toks := tk } := I1.kept fun b o e => hk b o (Heap.lt_size e) e
  have hnl : (nubI ns).length ≤ ns.length := PyProof.Rows.firstMet_length_le _ _
  exact call_len_set ho hex hd hf (by rw [hn]; unfold nubI at hnl; omega) ⟨.int (nubI ns).length, H1, I2.tok _, ⟨_, by rw [hn] <;> rfl⟩, q1⟩
end
end DL

/-! DL12: more statements; a def by its name -/
noncomputable section
namespace DL
open PySem L2 PyProof.Rows
open Evl (Ex)
/-- a def of the text, as its callers know it -/
def Cal (P : Program) (w : World) (K : PySem.W.Frag) (mg : Str → Option Value) (base : Heap) (cl : String → Addr) (x : Str) (k : Nat) (ps : List Str) (F : List R → Pw → FRes) : Prop :=
  ∃ (f : Addr) (fd : FuncData), FnG P w K mg base (L2.CX P w) k f fd ps (spF K cl F) ∧ mg x = some (.ref f) ∧ PySem.W.keepIn K (.ref f) = true ∧ Binds K fd ps []
/-- what the top has written of a def -/
def Wr (K : PySem.W.Frag) (mg : Str → Option Value) (x : Str) (st : Stmt) (ps : List Str) : Prop := ∃ (f : Addr) (fd : FuncData), Fun K x x st f fd ∧ mg x = some (.ref f) ∧ Binds K fd ps []
theorem cal_of {P : Program} {w : World} {K : PySem.W.Frag} {mg : Str → Option Value} {base : Heap} {cl : String → Addr} {x : Str} {k : Nat} {N ps : List Str} {st : Stmt} {p : DSt → Flow} (h : Wr K mg x st ps) (S : FnScope N ps (defScope st)) (hN : ps.length ≤ N.length)
    (hb : ∀ (f : Addr) (cdv : Value) (A : Around) (outer : List Env) (s : Shared) (H : Hp) (E : XK), RoomG k (A.deeper (envOfC x (defScope st) s.heap.objs.size f cdv)) →
      DSs (cxOf (L2.CX P w) P w K mg base N x (defScope st) f cdv A outer s H E) cl (fun cls d _ H => E cls d H) (defBody st) p) : Cal P w K mg base cl x (k + 1) ps (runF N.length ps.length p) := by
  obtain ⟨f, fd, F, g, b⟩ := h
  exact ⟨f, fd, def_ok F S hN fun cdv A outer s H E hr => hb f cdv A outer s H E hr, g, F.kp, b⟩
section
variable {X : Cx} {cl : String → Addr} {W : WX} {e a b c : Expr} {es : List Expr} {f g : M R} {fs : M (List R)} {pos : Pos} {p q : DSt → Flow}
theorem d_cal {F : List R → Pw → FRes} {k : Nat} {ps : List Str} {x : Str} {p : Pos} (h : Cal X.prog X.w X.K X.mg X.base cl x k ps F) (hr : RoomG k X.A) (hx : ∀ σ, PassesAt (L2.CX X.prog X.w) X σ (WE W σ)) (ha : DAe X cl W (e :: es) fs) (hg : Gl X x := by rfl) (hdb : (x == ("__debug__" : Str)) = false := by decide)
    (he : starEach (e :: es) X.env = (false, eval e X.env) :: starEach es X.env := by rfl) (hpl : (backTo pos (starEach es X.env)).any (·.1) = false := by rfl) : DE X cl W (.Call (.Name x p) (e :: es) [] pos) (fUser F fs) := by
  obtain ⟨f, fd, ok, g, kp, b⟩ := h
  exact d_user ok hr hg g kp b hx ha hdb he hpl
/-- x op= e, ints -/
def fAug (i : Nat) (o : Int → Int → Int) (f : M R) : DSt → Flow := fun s => match s.d[i]? with
  | some (.val (.int a)) => onRes (f s) fun r s' => match look r s' with
    | some (.int b) => if i < s'.d.length then .next (putS i (.val (.int (o a b))) s') else .stuck
    | _ => .stuck
  | _ => .stuck
theorem s_aug {i : Nat} {x : Str} {op : Operator} {o : Int → Int → Int} {pos' : Pos} (hN : X.N.Nodup) (hi : X.N[i]? = some x) (hx : Loc X.env.scope x) (he : DE X cl W e f) (ho : PIp X op (ipI o)) (hf : X.fn x = true ∨ X.env.scope.names.lookup x = some .local := by first | exact .inl rfl | exact .inr rfl | assumption) :
    DS X cl W (.AugAssign (.Name x pos') op e pos) (fAug i o f) := by
  refine ps_imp (ps_aug hN hi hx he ho hf) fun D σ H ⟨G, s, S, h⟩ => ?_
  unfold fAug at h
  split at h
  · rename_i a q
    obtain ⟨v, e1, hd⟩ := S.slot i _ q
    cases hd
    have e2 : σ[i]? = some (some (.int a)) := by
      cases z : σ[i]? with
      | none => rw [z] at e1; cases e1
      | some o => rw [z] at e1; simp at e1; rw [e1]
    refine ⟨_, e2, G, s, S, out_mono (fout_res h) fun r G1 s1 H1 st1 S1 k v rr => ?_⟩
    split at k
    · rename_i b e3
      obtain rfl := dq_int (look_q S1 rr e3)
      split at k
      · rename_i hl
        exact ⟨a, b, rfl, rfl, k G1 _ H1 (put_stp S1 st1 hl (by intro _ _ z; cases z)) (put_ok S1 hl ⟨_, rfl, .int _⟩ (by intro _ _ z; cases z))⟩
      · exact k.elim
    · exact k.elim
  · exact h.elim
/-- x[k] = e, x an own list -/
def fSetIx (i : Nat) (f g : M R) : DSt → Flow := fun s => onRes (bnd f fEsc s) fun r s1 => if isOwn i s1 then onRes (g s1) fun k s2 => match r, look k s2, s2.d[i]? with
    | .val d, some (.int n), some (.own ds) => match ixN ds.length n with
      | some j => .next (putS i (.own (ds.set j d)) s2)
      | none => .stuck
    | _, _, _ => .stuck
  else .stuck
theorem s_setIx {i : Nat} {x k : Expr} {p' : Pos} (he : DE X cl W e f) (hx : PE X x (tVar i)) (hk : DE X cl W k g)
    (ha : ∀ v, assign (.Subscript x k p') X.env v = (do
      let ov ← holding [v] (eval x X.env)
      let iv ← holding [v, ov] (eval k X.env)
      standAt p'
      holding [v, ov, iv] (setItem ov iv v)
      release [v, ov, iv] []) := by intro _; rfl)
    (hs : swapsWithSole [.Subscript x k p'] e pos.line X.env = pure false := by rfl) (hw : swappedStores [.Subscript x k p'] e X.env = pure none := by rfl) (h1 : (assignEach [.Subscript x k p'] X.env).map (·.2) = [assign (.Subscript x k p') X.env] := by rfl) :
    DS X cl W (.Assign [.Subscript x k p'] e pos) (fSetIx i f g) := by
  refine ps_imp (ps_asg he (pg_sub hx hk set_list ha) hs hw h1) fun D σ H ⟨G, s, S, h⟩ => ⟨G, s, S, ?_⟩
  refine out_mono (out_esc1 (fout_res h)) fun r G1 s1 H1 st1 S1 k v rr => ?_
  obtain ⟨G2, s2, r2, st2, S2, ar, ex, ee, k2⟩ := k v rr
  clear ee
  split at k2
  · rename_i ho
    obtain ⟨ds0, h0⟩ := isOwn_get ho
    obtain ⟨l, xs0, el, hl0, _⟩ := own_at S2 h0
    refine ⟨.ref l, el, G2, s2, S2, ?_⟩
    have k3 := fout_shift st2 k2
    refine out_mono (fout_res k3) fun kk G3 s3 H3 st3 S3 k4 u ru => ?_
    split at k4
    · rename_i d n ds e1 h1
      split at k4
      · rename_i j ej
        obtain rfl := dq_int (look_q S3 ru e1)
        obtain ⟨l2, xs, el2, hl2, hd2⟩ := own_at S3 h1
        rw [el] at el2
        cases el2
        obtain ⟨st4, S4⟩ := own_write S3 h1 el (dps_set (dp_mono st3.ex _ _ ar) j hd2)
        exact ⟨l, xs, n, j, rfl, rfl, hl2, by rw [dps_len hd2]; exact ej, k4 _ σ _ (st3.trans st4) S4⟩
      · exact k4.elim
    · exact k4.elim
  · exact k2.elim
/-- a, b = x, y -/
def fPar (i j : Nat) (fs : M (List R)) : DSt → Flow := fun s => onRes (fs s) fun rs s' => match rs with
  | [r1, r2] => if i < s'.d.length ∧ j < s'.d.length then .next (putS j (toSl r2) (putS i (toSl r1) s')) else .stuck
  | _ => .stuck
theorem ar_sl {K : PySem.W.Frag} {G H : Hp} {v : V} {r : R} (h : AR K G v r) : SlOk K G H (some v) (toSl r) := by
  cases r with
  | val d => exact ⟨v, rfl, h⟩
  | raw u => have h : v = u := h; subst h; rfl
  | ob o => exact ⟨v, rfl, h⟩
  | new ds => exact h.elim
  | slot i => exact h.elim
theorem no_own {r : R} {ds : List PyData} : toSl r ≠ .own ds := by cases r <;> exact fun h => nomatch h
theorem s_par {i j : Nat} {x y : Str} {px py pt : Pos} {kt k2 pt2} (hc : X.calm = true) (hN : X.N.Nodup) (hi : X.N[i]? = some x) (hj : X.N[j]? = some y) (hij : i ≠ j) (hx : X.env.scope.names.lookup x = some .local) (hy : X.env.scope.names.lookup y = some .local) (ha : DAe X cl W [a, b] fs)
    (hw : swappedStores [.Tuple [.Name x px, .Name y py] kt pt] (.Tuple [a, b] k2 pt2) X.env = pure (some [x, y]))
    (hs : swapsWithSole [.Tuple [.Name x px, .Name y py] kt pt] (.Tuple [a, b] k2 pt2) pos.line X.env = pure false := by rfl) :
    DS X cl W (.Assign [.Tuple [.Name x px, .Name y py] kt pt] (.Tuple [a, b] k2 pt2) pos) (fPar i j fs) := by
  refine ps_imp (ps_par hc hN hi hj hij hx hy ha hw hs) fun D σ H ⟨G, s, S, h⟩ => ⟨G, s, S, ?_⟩
  refine out_mono (fout_res h) fun rs G1 s1 H1 st1 S1 k vs hv => ?_
  split at k
  · rename_i r1 r2
    split at k
    · rename_i hl
      cases hv with
      | cons h1 h2 =>
        cases h2 with
        | cons h2 h3 =>
          cases h3
          rename_i v2 v1
          refine ⟨_, _, rfl, ?_⟩
          have S2 := put_ok S1 hl.1 (ar_sl (H := H1) h1) (fun ds a z _ => absurd z no_own)
          have st2 : Stp G s σ H G1 (putS i (toSl r1) s1) (σ.set i (some v2)) H1 := put_stp (v := _) S1 st1 hl.1 (x := toSl r1) (fun ds a z _ => absurd z no_own)
          have hl2 : j < (putS i (toSl r1) s1).d.length := by simpa [putS] using hl.2
          exact k G1 _ H1 (put_stp S2 st2 hl2 (fun ds a z _ => absurd z no_own)) (put_ok S2 hl2 (ar_sl h2) (fun ds a z _ => absurd z no_own))
    · exact k.elim
  · exact k.elim
theorem pg_or {tg : Expr} {t t' : TG} (h : PG X tg t) (h' : PG X tg t') : PG X tg (fun v σ H Q => t v σ H Q ∨ t' v σ H Q) := ⟨fun pins s σ H v u Q I r q => by
  rcases q with q | q
  · exact h.run pins s σ H v u Q I r q
  · exact h'.run pins s σ H v u Q I r q⟩
/-- a, b = e: a tuple or a list -/
def bSeq (n : Nat) (bs : Bds) : Bd := fun d s => match d with
  | .tuple ds => if ds.length = n then bs ds s else none
  | .list ds => if ds.length = n then bs ds s else none
  | _ => none
theorem g_seq {K : PySem.W.Frag} {n : Nat} {gs : TGs} {bs : Bds} {js : List Nat} (h : GsOk K gs bs js) : GOk K (fun v σ H Q => gTup K n gs v σ H Q ∨ gUnl K n gs v σ H Q) (bSeq n bs) js := by
  intro x d G s σ H s' Q S rp e k
  unfold bSeq at e
  split at e
  · rename_i ds
    exact .inl (g_tup (n := n) h x (.tuple ds) G s σ H s' Q S rp e k)
  · rename_i ds
    exact .inr (g_unl (n := n) h x (.list ds) G s σ H s' Q S rp e k)
  · cases e
end
end DL

/-! DL13: the purse: a list of a list of ints and an int, changed by the def that draws -/
noncomputable section
namespace DL
open PySem L2 PyProof.Rows
open Evl (Ex)
section
variable {K : PySem.W.Frag} {G H : Hp} {s : DSt} {σ : L2.St} {pa ca : Addr} {cells : List Int} {t : Int}
theorem pw_get (S : SA K G s σ H) (e : s.w = some (pa, ca, cells, t)) : pa ≠ ca ∧ H pa = some (.lst [.ref ca, .int t]) ∧ H ca = some (.lst (cells.map .int)) ∧ G pa = none ∧ G ca = none := by
  have q := S.pw
  unfold PwOk at q
  rw [e] at q
  exact q
/-- the purse is written -/
theorem pw_write {H' : Hp} {cells' : List Int} {t' : Int} (S : SA K G s σ H) (e : s.w = some (pa, ca, cells, t)) (h : ∀ a, a ≠ pa → a ≠ ca → H' a = H a) (h1 : H' pa = some (.lst [.ref ca, .int t'])) (h2 : H' ca = some (.lst (cells'.map .int))) :
    Stp G s σ H G { s with w := some (pa, ca, cells', t') } σ H' ∧ SA K G { s with w := some (pa, ca, cells', t') } σ H' := by
  obtain ⟨q1, q2, q3, q4, q5⟩ := pw_get S e
  have po : ∀ a, POwn s.w a ↔ (a = pa ∨ a = ca) := fun a => by unfold POwn; rw [e] <;> exact Iff.rfl
  have np : ∀ i a, OwnAt s σ i a → a ≠ pa ∧ a ≠ ca := fun i a z => ⟨fun w => S.pne i a z ((po a).mpr (.inl w)), fun w => S.pne i a z ((po a).mpr (.inr w))⟩
  refine ⟨⟨Ex.refl G, fun a o hb nb => ⟨?_, rfl⟩, fun a z => .inl ?_, fun a hb => ?_, fun a z => ?_⟩, ⟨S.len, fun a u hb => ?_, fun i sl hi => ?_, S.inj, S.ownG, ⟨q1, h1, h2, q4, q5⟩, fun i a z w => ?_⟩⟩
  · rw [h a (fun z => nb (.inr ((po a).mpr (.inl z)))) (fun z => nb (.inr ((po a).mpr (.inr z))))]; exact hb
  · rcases z with z | z
    · exact .inl z
    · exact .inr ((po a).mpr z)
  · by_cases z : a = pa
    · subst z; rw [h1]; simp
    · by_cases z2 : a = ca
      · subst z2; rw [h2]; simp
      · rw [h a z z2]; exact hb
  · exact (po a).mp z
  · rw [h a (fun z => by subst z; rw [q4] at hb; cases hb) (fun z => by subst z; rw [q5] at hb; cases hb)]
    exact S.gh a u hb
  · have q := S.slot i sl hi
    cases sl with
    | no => trivial
    | val d => exact q
    | raw v => exact q
    | ob o => exact q
    | own es =>
      obtain ⟨a, xs, e1, ha, hh⟩ := q
      have e2 : σ[i]? = some (some (.ref a)) := by
        cases z : σ[i]? with
        | none => rw [z] at e1; cases e1
        | some o => rw [z] at e1; simp at e1; rw [e1]
      obtain ⟨n1, n2⟩ := np i a ⟨⟨es, hi⟩, e2⟩
      exact ⟨a, xs, e1, by rw [h a n1 n2]; exact ha, hh⟩
  · obtain ⟨n1, n2⟩ := np i a z
    exact w.elim n1 n2
theorem raw_at {i : Nat} {v : V} (S : SA K G s σ H) (h : s.d[i]? = some (.raw v)) : σ[i]? = some (some v) := by
  have e : σ[i]?.join = some v := S.slot i _ h
  cases z : σ[i]? with
  | none => rw [z] at e; cases e
  | some o => rw [z] at e; simp at e; rw [e]
end
section
variable {X : Cx} {cl : String → Addr} {W : WX} {e a b c : Expr} {es : List Expr} {f g : M R} {fs : M (List R)} {pos : Pos} {p q : DSt → Flow}
/-- cells, turn = purse -/
def fUnP (i j k : Nat) : DSt → Flow := fun s => match s.d[i]?, s.w with
  | some (.raw (.ref p)), some (pa, ca, cells, t) => if p = pa ∧ j < s.d.length ∧ k < s.d.length then .next (putS k (.val (.int t)) (putS j (.raw (.ref ca)) s)) else .stuck
  | _, _ => .stuck
theorem s_unP {i j k : Nat} {x tg : Expr} (hx : PE X x (tVar i)) (hg : PG X tg (gUnl X.K 2 (gCons (gName j) (gCons (gName k) gNil)))) (hs : swapsWithSole [tg] x pos.line X.env = pure false := by rfl) (hw : swappedStores [tg] x X.env = pure none := by rfl)
    (h1 : (assignEach [tg] X.env).map (·.2) = [assign tg X.env] := by rfl) : DS X cl W (.Assign [tg] x pos) (fUnP i j k) := by
  refine ps_imp (ps_asg hx hg hs hw h1) fun D σ H ⟨G, s, S, h⟩ => ?_
  unfold fUnP at h
  split at h
  · rename_i p pa ca cells t e1 e2
    split at h
    · rename_i hh
      obtain ⟨rfl, hj, hk⟩ := hh
      obtain ⟨q1, q2, q3, q4, q5⟩ := pw_get S e2
      refine ⟨_, raw_at S e1, p, _, rfl, .of q2, rfl, _, _, rfl, _, _, rfl, rfl, ?_⟩
      have S2 := put_ok S hj (x := .raw (.ref ca)) (v := .ref ca) rfl (fun _ _ z => nomatch z)
      have st2 : Stp G s σ H G (putS j (.raw (.ref ca)) s) (σ.set j (some (.ref ca))) H := put_stp S Stp.refl hj (fun _ _ z => nomatch z)
      have hk2 : k < (putS j (.raw (.ref ca)) s).d.length := by simpa [putS] using hk
      exact h G _ H (put_stp S2 st2 hk2 (fun _ _ z => nomatch z)) (put_ok S2 hk2 ⟨_, rfl, .int t⟩ (fun _ _ z => nomatch z))
    · exact h.elim
  · exact h.elim
/-- len(cells) -/
def fLenC (i : Nat) : M R := fun s => match s.d[i]?, s.w with
  | some (.raw (.ref c)), some (pa, ca, cells, t) => if c = ca then .ok (.val (.int cells.length)) s else .stuck
  | _, _ => .stuck
theorem d_lenC {i : Nat} {x : Expr} {p : Pos} (hx : PE X x (tVar i)) (hg : Gl X "len") (hm : X.mg "len" = none)
    (he : starEach (x :: []) X.env = (false, eval x X.env) :: starEach [] X.env := by rfl) (hpl : (backTo pos (starEach [] X.env)).any (·.1) = false := by rfl) : DE X cl W (.Call (.Name "len" p) [x] [] pos) (fLenC i) := by
  refine pe_imp (pe_callB call_len_seq hg hm (by decide +kernel) (pa_cons hx pa_nil he) (by decide) (by decide) he hpl) fun σ H Q ⟨G, s, S, h⟩ => ?_
  unfold fLenC at h
  split at h
  · rename_i p pa ca cells t e1 e2
    split at h
    · rename_i hh
      subst hh
      obtain ⟨q1, q2, q3, q4, q5⟩ := pw_get S e2
      refine ⟨_, raw_at S e1, p, _, rfl, .inl (.of q3), ?_⟩
      have := h G H Stp.refl S _ (.int _)
      rw [List.length_map]
      exact this
    · exact h.elim
  · exact h.elim
/-- cells[e] -/
def fIxC (i : Nat) (f : M R) : M R := fun s => match s.d[i]? with
  | some (.raw (.ref c)) => bnd f (fun r s' => match s'.w, look r s' with
    | some (pa, ca, cells, t), some (.int n) => if c = ca then match atI cells n with
      | some z => .ok (.val (.int z)) s'
      | none => .stuck
      else .stuck
    | _, _ => .stuck) s
  | _ => .stuck
theorem atI_map {ns : List Int} {n z : Int} (h : atI ns n = some z) : atI (ns.map V.int) n = some (V.int z) := by
  unfold atI at h ⊢
  rw [List.length_map]
  cases q : ixN ns.length n with
  | none => rw [q] at h; cases h
  | some j =>
    rw [q] at h
    have h : ns[j]? = some z := h
    show (ns.map V.int)[j]? = _
    rw [List.getElem?_map, h]
    rfl
theorem d_ixC {i : Nat} {x : Expr} (hx : PE X x (tVar i)) (ha : DE X cl W e f) (hs : PlainIx e) : DE X cl W (.Subscript x e pos) (fIxC i f) := by
  refine pe_imp (pe_ix ix_seq hx ha hs) fun σ H Q ⟨G, s, S, q⟩ => ?_
  unfold fIxC at q
  split at q
  · rename_i c e1
    refine ⟨_, raw_at S e1, G, s, S, out_mono (out_bind q) fun r G1 s1 H1 st1 S1 k v rr => ?_⟩
    split at k
    · rename_i pa ca cells t n e2 e3
      split at k
      · rename_i hh
        subst hh
        split at k
        · rename_i z ez
          obtain rfl := dq_int (look_q S1 rr e3)
          obtain ⟨q1, q2, q3, q4, q5⟩ := pw_get S1 e2
          exact .inl ⟨c, _, n, _, rfl, rfl, .of q3, atI_map ez, k G1 H1 Stp.refl S1 _ (.int z)⟩
        · exact k.elim
      · exact k.elim
    · exact k.elim
  · exact q.elim
/-- purse[1] = e -/
def fSetT (i : Nat) (f : M R) : DSt → Flow := fun s => onRes (f s) fun r s' => match s'.d[i]?, s'.w, look r s' with
  | some (.raw (.ref p)), some (pa, ca, cells, t), some (.int n) => if p = pa then .next { s' with w := some (pa, ca, cells, n) } else .stuck
  | _, _, _ => .stuck
theorem s_setT {i : Nat} {x : Expr} {j : Nat} {p1 p' : Pos} (he : DE X cl W e f) (hx : PE X x (tVar i))
    (ha : ∀ v, assign (.Subscript x (.Constant (.int 1) j p1) p') X.env v = (do
      let ov ← holding [v] (eval x X.env)
      let iv ← holding [v, ov] (eval (.Constant (.int 1) j p1) X.env)
      standAt p'
      holding [v, ov, iv] (setItem ov iv v)
      release [v, ov, iv] []) := by intro _; rfl)
    (hs : swapsWithSole [.Subscript x (.Constant (.int 1) j p1) p'] e pos.line X.env = pure false := by rfl) (hw : swappedStores [.Subscript x (.Constant (.int 1) j p1) p'] e X.env = pure none := by rfl) (h1 : (assignEach [.Subscript x (.Constant (.int 1) j p1) p'] X.env).map (·.2) = [assign (.Subscript x (.Constant (.int 1) j p1) p') X.env] := by rfl) :
    DS X cl W (.Assign [.Subscript x (.Constant (.int 1) j p1) p'] e pos) (fSetT i f) := by
  refine ps_imp (ps_asg he (pg_sub hx pe_int set_list ha) hs hw h1) fun D σ H ⟨G, s, S, h⟩ => ⟨G, s, S, ?_⟩
  refine out_mono (fout_res h) fun r G1 s1 H1 st1 S1 k v rr => ?_
  split at k
  · rename_i p pa ca cells t n e1 e2 e3
    split at k
    · rename_i hh
      subst hh
      obtain ⟨q1, q2, q3, q4, q5⟩ := pw_get S1 e2
      obtain rfl := dq_int (look_q S1 rr e3)
      obtain ⟨st2, S2⟩ := pw_write (H' := upd H1 p (.lst [.ref ca, .int n])) (cells' := cells) (t' := n) S1 e2 (fun a n1 n2 => upd_ne n1) upd_same (by rw [upd_ne (Ne.symm q1)]; exact q3)
      exact ⟨_, raw_at S1 e1, p, _, 1, 1, rfl, rfl, q2, rfl, k G1 σ _ (st1.trans st2) S2⟩
    · exact k.elim
  · exact k.elim
/-- cells[k] = e -/
def fSetC (i : Nat) (f g : M R) : DSt → Flow := fun s => onRes (f s) fun r s1 => match s1.d[i]? with
  | some (.raw (.ref c)) => onRes (g s1) fun k s2 => match s2.w, look r s1, look k s2 with
    | some (pa, ca, cells, t), some (.int z), some (.int n) => if c = ca then match ixN cells.length n with
      | some j => .next { s2 with w := some (pa, ca, cells.set j z, t) }
      | none => .stuck
      else .stuck
    | _, _, _ => .stuck
  | _ => .stuck
theorem s_setC {i : Nat} {x k : Expr} {p' : Pos} (he : DE X cl W e f) (hx : PE X x (tVar i)) (hk : DE X cl W k g)
    (ha : ∀ v, assign (.Subscript x k p') X.env v = (do
      let ov ← holding [v] (eval x X.env)
      let iv ← holding [v, ov] (eval k X.env)
      standAt p'
      holding [v, ov, iv] (setItem ov iv v)
      release [v, ov, iv] []) := by intro _; rfl)
    (hs : swapsWithSole [.Subscript x k p'] e pos.line X.env = pure false := by rfl) (hw : swappedStores [.Subscript x k p'] e X.env = pure none := by rfl) (h1 : (assignEach [.Subscript x k p'] X.env).map (·.2) = [assign (.Subscript x k p') X.env] := by rfl) :
    DS X cl W (.Assign [.Subscript x k p'] e pos) (fSetC i f g) := by
  refine ps_imp (ps_asg he (pg_sub hx hk set_list ha) hs hw h1) fun D σ H ⟨G, s, S, h⟩ => ⟨G, s, S, ?_⟩
  refine out_mono (fout_res h) fun r G1 s1 H1 st1 S1 k v rr => ?_
  split at k
  · rename_i c e1
    refine ⟨_, raw_at S1 e1, G1, s1, S1, ?_⟩
    have k3 := fout_shift st1 k
    refine out_mono (fout_res k3) fun kk G3 s3 H3 st3 S3 k4 u ru => ?_
    split at k4
    · rename_i pa ca cells t z n e2 e3 e4
      split at k4
      · rename_i hh
        subst hh
        split at k4
        · rename_i j ej
          obtain ⟨q1, q2, q3, q4, q5⟩ := pw_get S3 e2
          obtain rfl := dq_int (look_q S1 rr e3)
          obtain rfl := dq_int (look_q S3 ru e4)
          obtain ⟨st4, S4⟩ := pw_write (H' := upd H3 c (.lst ((cells.map V.int).set j (.int z)))) (cells' := cells.set j z) (t' := t) S3 e2 (fun a n1 n2 => upd_ne n2) (by rw [upd_ne q1]; exact q2) (by rw [upd_same, List.map_set])
          exact ⟨c, _, n, j, rfl, rfl, q3, by rw [List.length_map]; exact ej, k4 _ σ _ (st3.trans st4) S4⟩
        · exact k4.elim
      · exact k4.elim
    · exact k4.elim
  · exact k.elim
end
end DL

/-! DL14: the purse made; a law -/
noncomputable section
namespace DL
open PySem L2 PyProof.Rows
open Evl (Ex)
/-- what a purse is made of -/
def spPurse (K : PySem.W.Frag) : Sp := fun vs H Q _ => ∃ (a : Addr) (ns : List Int), vs = [.ref a] ∧ SqL K H a (ns.map V.int) ∧ ns.length ≤ 63 ∧
  ∀ (pa ca : Addr) (cells : List Int) (H' : Hp), pa ≠ ca → H pa = none → H ca = none → Ex H H' → H' pa = some (.lst [.ref ca, .int 0]) → H' ca = some (.lst (cells.map V.int)) → cells ≠ [] → cells.length ≤ 63 → Q (.ref pa) H'
def spLaw (K : PySem.W.Frag) : Sp := fun vs H Q _ => ∃ (a : Addr) (ns : List Int), vs = [.ref a] ∧ SqL K H a (ns.map V.int) ∧ ns.length ≤ 63 ∧ ∀ H', Q (.bl true) H'
section
variable {P : Program} {w : World} {K : PySem.W.Frag} {mg : Str → Option Value} {base : Heap} {cl : String → Addr}
def CalS (P : Program) (w : World) (K : PySem.W.Frag) (mg : Str → Option Value) (base : Heap) (x : Str) (k : Nat) (ps : List Str) (sp : Sp) : Prop :=
  ∃ (f : Addr) (fd : FuncData), FnG P w K mg base (L2.CX P w) k f fd ps sp ∧ mg x = some (.ref f) ∧ PySem.W.keepIn K (.ref f) = true ∧ Binds K fd ps []
/-- the def that makes the purse: its first row by hand (the script's slice), the rest on data -/
theorem purse_ok {st s1 : Stmt} {rest : List Stmt} {x : Str} {N : List Str} {k : Nat} {p : DSt → Flow} {arg : Str} (h : Wr K mg x st [arg]) (S : FnScope N [arg] (defScope st)) (hN : 2 ≤ N.length) (hbody : defBody st = s1 :: rest)
    (hb : ∀ (f : Addr) (cdv : Value) (A : Around) (outer : List Env) (s : Shared) (H : Hp) (E : XK), RoomG k (A.deeper (envOfC x (defScope st) s.heap.objs.size f cdv)) →
      PS (cxOf (L2.CX P w) P w K mg base N x (defScope st) f cdv A outer s H E) s1 (tAsg (tSl (rSlL K) (tVar 0) tNoPart (tPart (tC (.int 63)))) (gName 1)) ∧
      DSs (cxOf (L2.CX P w) P w K mg base N x (defScope st) f cdv A outer s H E) cl (fun cls d _ H => E cls d H) rest p)
    (hp : ∀ (a : Addr) (ns : List Int), ns.length ≤ 63 → ∃ (cells : List Int) (s' : DSt), p ⟨.raw (.ref a) :: .own (ns.map .int) :: List.replicate (N.length - 2) .no, none⟩ = .ret (.new [.list (cells.map .int), .int 0]) s' ∧ cells ≠ [] ∧ cells.length ≤ 63) :
    CalS P w K mg base x (k + 1) [arg] (spPurse K) := by
  obtain ⟨f, fd, F, g, b⟩ := h
  refine ⟨f, fd, okG F S (fun vs H Q E h => ?_) (fun cdv A outer s H vs Q E hr h => ?_), g, F.kp, b⟩
  · obtain ⟨a, ns, rfl, _⟩ := h; rfl
  · obtain ⟨h1, h2⟩ := hb f cdv A outer s H E hr
    refine ⟨_, by rw [hbody]; exact pss_cons h1 h2, ?_⟩
    obtain ⟨a, ns, rfl, hs, hl, q⟩ := h
    have hst : L2.start N [V.ref a] = some (.ref a) :: none :: List.replicate (N.length - 2) none := by
      show [some (V.ref a)] ++ List.replicate (N.length - 1) none = _
      have : N.length - 1 = (N.length - 2) + 1 := by omega
      rw [this, List.replicate_succ]
      rfl
    have hcut : cutV (ns.map V.int) none (some 63) = ns.map V.int := by
      unfold cutV
      have e1 : HT.sIx (ns.map V.int).length 0 none = 0 := rfl
      have e2 : HT.sIx (ns.map V.int).length (ns.map V.int).length (some 63) = (ns.map V.int).length := by
        unfold HT.sIx
        simp
        omega
      rw [e1, e2]
      simp only [List.drop_zero, Nat.sub_zero]
      exact List.take_length
    rw [hst]
    show tSl (rSlL K) (tVar 0) tNoPart (tPart (tC (.int 63))) _ H _
    refine ⟨_, rfl, 63, rfl, a, _, rfl, hs, fun p0 hp0 => ?_⟩
    rw [hcut]
    obtain ⟨cells, s', hp1, hne, hlen⟩ := hp a ns hl
    obtain ⟨H1, eH1⟩ : ∃ H1, H1 = upd H p0 (.lst (ns.map V.int)) := ⟨_, rfl⟩
    have hH1 : H1 p0 = some (.lst (ns.map V.int)) := by rw [eH1, upd_same]
    have own0 : ∀ (i : Nat) (c : Addr), OwnAt ⟨.raw (.ref a) :: .own (ns.map .int) :: List.replicate (N.length - 2) .no, none⟩ (some (.ref a) :: some (.ref p0) :: List.replicate (N.length - 2) none) i c → i = 1 ∧ c = p0 := by
      rintro i c ⟨⟨ds, e⟩, e2⟩
      match i with
      | 0 => cases e
      | 1 => simp at e2; exact ⟨rfl, e2.symm⟩
      | i + 2 =>
        simp only [List.getElem?_cons_succ, List.getElem?_replicate] at e
        split at e <;> cases e
    have S0 : SA K (fun _ => none) ⟨.raw (.ref a) :: .own (ns.map .int) :: List.replicate (N.length - 2) .no, none⟩ (some (.ref a) :: some (.ref p0) :: List.replicate (N.length - 2) none) H1 := by
      refine ⟨by simp, fun _ _ z => (by cases z), fun i sl e => ?_, fun i j c z1 z2 => (own0 i c z1).1.trans (own0 j c z2).1.symm, fun _ _ _ => rfl, trivial, fun _ _ _ z => z⟩
      match i with
      | 0 => cases e; rfl
      | 1 => cases e; exact ⟨p0, _, rfl, hH1, rp_ints ns⟩
      | i + 2 =>
        simp only [List.getElem?_cons_succ, List.getElem?_replicate] at e
        split at e
        · cases e; trivial
        · cases e
    rw [← eH1]
    refine ⟨_, _, S0, ?_⟩
    rw [hp1]
    intro v G' σ' H' st S' rr
    obtain ⟨pa, xs, rfl, hpa, hd, hg, h0, hn⟩ := rr
    cases hd with
    | cons r1 r2 =>
      cases r2 with
      | cons r2 r3 =>
        cases r3
        cases r2
        cases r1 with
        | lst hca hcs =>
          rename_i ca ys
          have ey : ys = cells.map V.int := ints_rp hcs (by simp)
          subst ey
          have free : ∀ c, H1 c = none → H c = none := fun c z => by
            rw [eH1] at z
            by_cases e : c = p0
            · subst e; rw [upd_same] at z; cases z
            · rw [upd_ne e] at z; exact z
          have hcn : H ca = none := by
            by_cases e : ca = p0
            · subst e; exact hp0
            · refine free ca (Classical.byContradiction fun nz => ?_)
              obtain ⟨o, ho⟩ := Option.ne_none_iff_exists'.mp nz
              have nown : ¬ Own ⟨.raw (.ref a) :: .own (ns.map .int) :: List.replicate (N.length - 2) .no, none⟩ (some (.ref a) :: some (.ref p0) :: List.replicate (N.length - 2) none) ca := by
                rintro (⟨i, z⟩ | z)
                · exact e (own0 i ca z).2
                · exact z
              rw [(st.keep ca o ho nown).2] at hca
              cases hca
          have ne : pa ≠ ca := fun e => by subst e; rw [hg] at hca; cases hca
          refine q pa ca cells H' ne (free pa h0) hcn (fun c o hc => ?_) hpa (S'.gh _ _ hca) hne hlen
          have nc : c ≠ p0 := fun e => by subst e; rw [hp0] at hc; cases hc
          refine (st.keep c o (by rw [eH1, upd_ne nc]; exact hc) ?_).1
          rintro (⟨i, z⟩ | z)
          · exact nc (own0 i c z).2
          · exact z
/-- a law: the purse is made first, the rest on data -/
theorem law_ok {st s1 : Stmt} {rest : List Stmt} {x : Str} {N : List Str} {k : Nat} {p : DSt → Flow} {arg : Str} {i : Nat} {f : Addr} {fd : FuncData} (F : Fun K x x st f fd) (S : FnScope N [arg] (defScope st)) (hi : i < N.length) (hi0 : 0 < i) (hbody : defBody st = s1 :: rest)
    (hb : ∀ (f : Addr) (cdv : Value) (A : Around) (outer : List Env) (s : Shared) (H : Hp) (E : XK), RoomG k (A.deeper (envOfC x (defScope st) s.heap.objs.size f cdv)) →
      PS (cxOf (L2.CX P w) P w K mg base N x (defScope st) f cdv A outer s H E) s1 (tAsg (tCallS (spPurse K) (WE fun cls d _ H => E cls d H) (tCons (tVar 0) tNil)) (gName i)) ∧
      DSs (cxOf (L2.CX P w) P w K mg base N x (defScope st) f cdv A outer s H E) cl (fun cls d _ H => E cls d H) rest p)
    (hp : ∀ (a pa ca : Addr) (cells : List Int), pa ≠ ca → cells ≠ [] → cells.length ≤ 63 → ∃ s', p ⟨(Sl.raw (.ref a) :: List.replicate (N.length - 1) Sl.no).set i (.raw (.ref pa)), some (pa, ca, cells, 0)⟩ = .ret (.val (.bool true)) s') :
    FnG P w K mg base (L2.CX P w) (k + 1) f fd [arg] (spLaw K) := by
  refine okG F S (fun vs H Q E h => ?_) (fun cdv A outer s H vs Q E hr h => ?_)
  · obtain ⟨a, ns, rfl, _⟩ := h; rfl
  · obtain ⟨h1, h2⟩ := hb f cdv A outer s H E hr
    refine ⟨_, by rw [hbody]; exact pss_cons h1 h2, ?_⟩
    obtain ⟨a, ns, rfl, hs, hl, q⟩ := h
    refine ⟨_, rfl, a, ns, rfl, hs, hl, fun pa ca cells H' ne h1 h2 ex hpa hca hne hlen => ?_⟩
    obtain ⟨s', hp1⟩ := hp a pa ca cells ne hne hlen
    have hst : L2.start N [V.ref a] = some (.ref a) :: List.replicate (N.length - 1) none := rfl
    have noown : ∀ (j : Nat) (c : Addr), ¬ OwnAt ⟨(Sl.raw (.ref a) :: List.replicate (N.length - 1) Sl.no).set i (.raw (.ref pa)), some (pa, ca, cells, 0)⟩ ((L2.start N [V.ref a]).set i (some (.ref pa))) j c := by
      rintro j c ⟨⟨ds, e⟩, _⟩
      rw [List.getElem?_set] at e
      split at e
      · split at e <;> cases e
      · match j with
        | 0 => cases e
        | j + 1 =>
          simp only [List.getElem?_cons_succ, List.getElem?_replicate] at e
          split at e <;> cases e
    refine ⟨fun _ => none, ⟨(Sl.raw (.ref a) :: List.replicate (N.length - 1) Sl.no).set i (.raw (.ref pa)), some (pa, ca, cells, 0)⟩, ⟨?_, fun _ _ z => (by cases z), fun j sl e => ?_, fun j _ c z => (noown j c z).elim, fun j c z => (noown j c z).elim, ⟨ne, hpa, hca, rfl, rfl⟩, fun j c z => (noown j c z).elim⟩, ?_⟩
    · rw [hst]; simp
    · rw [List.getElem?_set] at e
      rw [hst]
      split at e
      · rename_i hj
        subst hj
        split at e
        · cases e
          show ((some (V.ref a) :: List.replicate (N.length - 1) none).set i (some (.ref pa)))[i]?.join = _
          rw [List.getElem?_set_self (by simp; omega)]
          rfl
        · cases e
      · rename_i hj
        match j with
        | 0 =>
          cases e
          show ((some (V.ref a) :: List.replicate (N.length - 1) none).set i (some (.ref pa)))[0]?.join = _
          rw [List.getElem?_set_ne hj]
          rfl
        | j + 1 =>
          simp only [List.getElem?_cons_succ, List.getElem?_replicate] at e
          split at e
          · cases e; trivial
          · cases e
    · show FOut K cl _ _ _ _ _ (p _) _
      rw [hp1]
      intro v G' σ' H2 st' S' rr
      cases rr
      exact q H2
end
end DL

/-! DL15: reckoning on data: what each piece does, as rows for simp -/
noncomputable section
namespace DL
open PySem L2
def andThen (x : Flow) (q : DSt → Flow) : Flow := match x with
  | .next s => q s
  | x => x
theorem inB_of {j : Int} (h1 : -1000000000 ≤ j) (h2 : j ≤ 1000000000) : inB j := ⟨by omega, by omega⟩
theorem inW_of {j : Int} (h1 : -1000000000 ≤ j) (h2 : j ≤ 1000000000) : inW j := ⟨by omega, by omega⟩
@[simp] theorem inB_lit {k : Nat} (h : k ≤ 1000000000) : inB (no_index (OfNat.ofNat k)) := ⟨by
  show -(2 ^ 62) ≤ (k : Int)
  omega, by
  show (k : Int) < 2 ^ 62
  omega⟩
@[simp] theorem inW_lit {k : Nat} (h : k ≤ 1000000000) : inW (no_index (OfNat.ofNat k)) := ⟨by
  show -(2 ^ 63) ≤ (k : Int)
  omega, by
  show (k : Int) < 2 ^ 63
  omega⟩
@[simp] theorem size_le {n : Nat} (h : n ≤ 100000) : leS n := Nat.le_trans h (by decide)
@[simp] theorem size_lt {n : Nat} (h : n ≤ 100000) : ltS n := Nat.lt_of_le_of_lt h (by decide)
@[simp] theorem at_next {s : DSt} {q : DSt → Flow} : andThen (.next s) q = q s := Eq.trans rfl rfl
@[simp] theorem at_ret {r : R} {s : DSt} {q : DSt → Flow} : andThen (.ret r s) q = .ret r s := Eq.trans rfl rfl
@[simp] theorem at_brk {s : DSt} {q : DSt → Flow} : andThen (.brk s) q = .brk s := Eq.trans rfl rfl
@[simp] theorem at_cnt {s : DSt} {q : DSt → Flow} : andThen (.cnt s) q = .cnt s := Eq.trans rfl rfl
@[simp] theorem at_err {z : Exn} {s : DSt} {q : DSt → Flow} : andThen (.err z s) q = .err z s := Eq.trans rfl rfl
@[simp] theorem at_stuck {q : DSt → Flow} : andThen .stuck q = .stuck := Eq.trans rfl rfl
def onF (x : FRes) (s : DSt) : Res R := match x with
  | .ok r w => .ok r ⟨s.d, w⟩
  | .err z w => .err z ⟨s.d, w⟩
  | .stuck => .stuck
@[simp] theorem onF_ok {r : R} {w : Pw} {s : DSt} : onF (.ok r w) s = .ok r ⟨s.d, w⟩ := Eq.trans rfl rfl
@[simp] theorem onF_err {r : Exn} {w : Pw} {s : DSt} : onF (.err r w) s = .err r ⟨s.d, w⟩ := Eq.trans rfl rfl
def finF (x : Flow) : FRes := match x with
  | .next s => .ok (.val .none) s.w
  | .ret r s => (match finR r s with | some r' => .ok r' s.w | none => .stuck)
  | .err z s => .err z s.w
  | _ => .stuck
@[simp] theorem finF_next {s : DSt} : finF (.next s) = .ok (.val .none) s.w := Eq.trans rfl rfl
@[simp] theorem finF_ret {r : R} {s : DSt} : finF (.ret r s) = (match finR r s with | some r' => .ok r' s.w | none => .stuck) := Eq.trans rfl rfl
@[simp] theorem finF_err {r : Exn} {s : DSt} : finF (.err r s) = .err r s.w := Eq.trans rfl rfl
/-! continuations by name: simp does not run ahead into them -/
def kOp (o : R → R → M R) (g : M R) (x : R) (s : DSt) : Res R := (g s).bind (o x)
@[simp] theorem y_kOp (o : R → R → M R) (g : M R) (x : R) (s : DSt) : kOp o g x s = ((g s).bind (o x)) := Eq.trans rfl rfl
def kB  (r : R) (s : DSt) : Res Bool := match look r s with | some (.bool b) => .ok b s | _ => .stuck
@[simp] theorem y_kB  (r : R) (s : DSt) : kB  r s = (match look r s with | some (.bool b) => .ok b s | _ => .stuck) := Eq.trans rfl rfl
def kAnd (u : M Bool) (b : Bool) (s : DSt) : Res Bool := if b = true then u s else .ok false s
@[simp] theorem y_kAnd (u : M Bool) (b : Bool) (s : DSt) : kAnd u b s = (if b = true then u s else .ok false s) := Eq.trans rfl rfl
def kOr (u : M Bool) (b : Bool) (s : DSt) : Res Bool := if b = true then .ok true s else u s
@[simp] theorem y_kOr (u : M Bool) (b : Bool) (s : DSt) : kOr u b s = (if b = true then .ok true s else u s) := Eq.trans rfl rfl
def kNot  (b : Bool) (s : DSt) : Res Bool := .ok (!b) s
@[simp] theorem y_kNot  (b : Bool) (s : DSt) : kNot  b s = (.ok (!b) s) := Eq.trans rfl rfl
def kV  (b : Bool) (s : DSt) : Res R := .ok (.val (.bool b)) s
@[simp] theorem y_kV  (b : Bool) (s : DSt) : kV  b s = (.ok (.val (.bool b)) s) := Eq.trans rfl rfl
def kAndV (g : M R) (b : Bool) (s : DSt) : Res R := if b = true then g s else .ok (.val (.bool false)) s
@[simp] theorem y_kAndV (g : M R) (b : Bool) (s : DSt) : kAndV g b s = (if b = true then g s else .ok (.val (.bool false)) s) := Eq.trans rfl rfl
def kOrV (g : M R) (b : Bool) (s : DSt) : Res R := if b = true then .ok (.val (.bool true)) s else g s
@[simp] theorem y_kOrV (g : M R) (b : Bool) (s : DSt) : kOrV g b s = (if b = true then .ok (.val (.bool true)) s else g s) := Eq.trans rfl rfl
def kIf (f g : M R) (b : Bool) (s : DSt) : Res R := if b = true then f s else g s
@[simp] theorem y_kIf (f g : M R) (b : Bool) (s : DSt) : kIf f g b s = (if b = true then f s else g s) := Eq.trans rfl rfl
def kCons3 (r : R) (rs : List R) (s : DSt) : Res (List R) := .ok (r :: rs) s
@[simp] theorem y_kCons3 (r : R) (rs : List R) (s : DSt) : kCons3 r rs s = (.ok (r :: rs) s) := Eq.trans rfl rfl
def kCons2 (fs : M (List R)) (r : R) (s : DSt) : Res (List R) := (fs s).bind (kCons3 r)
@[simp] theorem y_kCons2 (fs : M (List R)) (r : R) (s : DSt) : kCons2 fs r s = ((fs s).bind (kCons3 r)) := Eq.trans rfl rfl
def kCons (fs : M (List R)) (r : R) (s : DSt) : Res (List R) := (fEsc r s).bind (kCons2 fs)
@[simp] theorem y_kCons (fs : M (List R)) (r : R) (s : DSt) : kCons fs r s = ((fEsc r s).bind (kCons2 fs)) := Eq.trans rfl rfl
def kLst  (rs : List R) (s : DSt) : Res R := match datas rs with | some ds => if leS ds.length then .ok (.new ds) s else .stuck | none => .stuck
@[simp] theorem y_kLst  (rs : List R) (s : DSt) : kLst  rs s = (match datas rs with | some ds => if leS ds.length then .ok (.new ds) s else .stuck | none => .stuck) := Eq.trans rfl rfl
def kTup  (rs : List R) (s : DSt) : Res R := match datas rs with | some ds => if leS ds.length then .ok (.val (.tuple ds)) s else .stuck | none => .stuck
@[simp] theorem y_kTup  (rs : List R) (s : DSt) : kTup  rs s = (match datas rs with | some ds => if leS ds.length then .ok (.val (.tuple ds)) s else .stuck | none => .stuck) := Eq.trans rfl rfl
def kPart  (r : R) (s : DSt) : Res (Option Int) := match look r s with | some (.int i) => .ok (some i) s | _ => .stuck
@[simp] theorem y_kPart  (r : R) (s : DSt) : kPart  r s = (match look r s with | some (.int i) => .ok (some i) s | _ => .stuck) := Eq.trans rfl rfl
def kSl3 (x : R) (lo : Option Int) (hi : Option Int) (s : DSt) : Res R := match look x s with | some d => (match sliceO d lo hi with | some (.slot _) => .stuck | some r => .ok r s | none => .stuck) | none => .stuck
@[simp] theorem y_kSl3 (x : R) (lo : Option Int) (hi : Option Int) (s : DSt) : kSl3 x lo hi s = (match look x s with | some d => (match sliceO d lo hi with | some (.slot _) => .stuck | some r => .ok r s | none => .stuck) | none => .stuck) := Eq.trans rfl rfl
def kSl2 (b : M (Option Int)) (x : R) (lo : Option Int) (s : DSt) : Res R := (b s).bind (kSl3 x lo)
@[simp] theorem y_kSl2 (b : M (Option Int)) (x : R) (lo : Option Int) (s : DSt) : kSl2 b x lo s = ((b s).bind (kSl3 x lo)) := Eq.trans rfl rfl
def kSl1 (a b : M (Option Int)) (x : R) (s : DSt) : Res R := (a s).bind (kSl2 b x)
@[simp] theorem y_kSl1 (a b : M (Option Int)) (x : R) (s : DSt) : kSl1 a b x s = ((a s).bind (kSl2 b x)) := Eq.trans rfl rfl
def kIsN (b : Bool) (r : R) (s : DSt) : Res R := match isNR r s with | some c => .ok (.val (.bool (if b then !c else c))) s | none => .stuck
@[simp] theorem y_kIsN (b : Bool) (r : R) (s : DSt) : kIsN b r s = (match isNR r s with | some c => .ok (.val (.bool (if b then !c else c))) s | none => .stuck) := Eq.trans rfl rfl
def kDrop  (r : R) (s : DSt) : Flow := .next s
@[simp] theorem y_kDrop  (r : R) (s : DSt) : kDrop  r s = (.next s) := Eq.trans rfl rfl
def kIfS (p q : DSt → Flow) (b : Bool) (s : DSt) : Flow := if b = true then p s else q s
@[simp] theorem y_kIfS (p q : DSt → Flow) (b : Bool) (s : DSt) : kIfS p q b s = (if b = true then p s else q s) := Eq.trans rfl rfl
def kSet (i : Nat) (r : R) (s : DSt) : Flow := if i < s.d.length then (match store i r s with | some s2 => .next s2 | none => .stuck) else .stuck
@[simp] theorem y_kSet (i : Nat) (r : R) (s : DSt) : kSet i r s = (if i < s.d.length then (match store i r s with | some s2 => .next s2 | none => .stuck) else .stuck) := Eq.trans rfl rfl
def kUser (F : List R → Pw → FRes) (rs : List R) (s : DSt) : Res R := onF (F rs s.w) s
@[simp] theorem y_kUser (F : List R → Pw → FRes) (rs : List R) (s : DSt) : kUser F rs s = (onF (F rs s.w) s) := Eq.trans rfl rfl
def kCall (o : List PyData → Option R) (rs : List R) (s : DSt) : Res R := match looks rs s with | some ds => (match o ds with | some (.slot _) => .stuck | some r => .ok r s | none => .stuck) | none => .stuck
@[simp] theorem y_kCall (o : List PyData → Option R) (rs : List R) (s : DSt) : kCall o rs s = (match looks rs s with | some ds => (match o ds with | some (.slot _) => .stuck | some r => .ok r s | none => .stuck) | none => .stuck) := Eq.trans rfl rfl
def kIsi (m : String) (r : R) (s : DSt) : Res R := match look r s with | some d => .ok (.val (.bool (isT m d))) s | none => .stuck
@[simp] theorem y_kIsi (m : String) (r : R) (s : DSt) : kIsi m r s = (match look r s with | some d => .ok (.val (.bool (isT m d))) s | none => .stuck) := Eq.trans rfl rfl
def kLenSet  (r : R) (s : DSt) : Res R := match look r s with | some (.list ds) => (match intsD ds with | some ns => if ns.length ≤ 4000 then .ok (.val (.int (nubI ns).length)) s else .stuck | none => .stuck) | _ => .stuck
@[simp] theorem y_kLenSet  (r : R) (s : DSt) : kLenSet  r s = (match look r s with | some (.list ds) => (match intsD ds with | some ns => if ns.length ≤ 4000 then .ok (.val (.int (nubI ns).length)) s else .stuck | none => .stuck) | _ => .stuck) := Eq.trans rfl rfl
def kIdx2 (x : R) (r : R) (s : DSt) : Res R := match look x s, look r s with | some (.list ds), some d => (match idxO ds d with | some j => .ok (.val (.int (j : Nat))) s | none => .stuck) | _, _ => .stuck
@[simp] theorem y_kIdx2 (x : R) (r : R) (s : DSt) : kIdx2 x r s = (match look x s, look r s with | some (.list ds), some d => (match idxO ds d with | some j => .ok (.val (.int (j : Nat))) s | none => .stuck) | _, _ => .stuck) := Eq.trans rfl rfl
def kIdx (f : M R) (x : R) (s : DSt) : Res R := if isLst x s = true then (f s).bind (kIdx2 x) else .stuck
@[simp] theorem y_kIdx (f : M R) (x : R) (s : DSt) : kIdx f x s = (if isLst x s = true then (f s).bind (kIdx2 x) else .stuck) := Eq.trans rfl rfl
def kApp2 (i : Nat) (r : R) (s : DSt) : Res R := match r, s.d[i]? with | .val d, some (.own ds) => if ltS ds.length then .ok (.val .none) (putS i (.own (ds ++ [d])) s) else .stuck | _, _ => .stuck
@[simp] theorem y_kApp2 (i : Nat) (r : R) (s : DSt) : kApp2 i r s = (match r, s.d[i]? with | .val d, some (.own ds) => if ltS ds.length then .ok (.val .none) (putS i (.own (ds ++ [d])) s) else .stuck | _, _ => .stuck) := Eq.trans rfl rfl
def kApp1 (i : Nat) (r : R) (s : DSt) : Res R := (fEsc r s).bind (kApp2 i)
@[simp] theorem y_kApp1 (i : Nat) (r : R) (s : DSt) : kApp1 i r s = ((fEsc r s).bind (kApp2 i)) := Eq.trans rfl rfl
def kPopAt (i : Nat) (r : R) (s : DSt) : Res R := match look r s, s.d[i]? with | some (.int k), some (.own ds) => (match ixN ds.length k with | some j => (match ds[j]? with | some d => if inW k then .ok (.val d) (putS i (.own (ds.eraseIdx j)) s) else .stuck | none => .stuck) | none => .stuck) | _, _ => .stuck
@[simp] theorem y_kPopAt (i : Nat) (r : R) (s : DSt) : kPopAt i r s = (match look r s, s.d[i]? with | some (.int k), some (.own ds) => (match ixN ds.length k with | some j => (match ds[j]? with | some d => if inW k then .ok (.val d) (putS i (.own (ds.eraseIdx j)) s) else .stuck | none => .stuck) | none => .stuck) | _, _ => .stuck) := Eq.trans rfl rfl
def kIns (i : Nat) (rs : List R) (s : DSt) : Res R := match rs, s.d[i]? with | [.val (.int k), .val d], some (.own ds) => if 0 ≤ k ∧ inW k ∧ ltS ds.length then .ok (.val .none) (putS i (.own (ds.take k.toNat ++ [d] ++ ds.drop k.toNat)) s) else .stuck | _, _ => .stuck
@[simp] theorem y_kIns (i : Nat) (rs : List R) (s : DSt) : kIns i rs s = (match rs, s.d[i]? with | [.val (.int k), .val d], some (.own ds) => if 0 ≤ k ∧ inW k ∧ ltS ds.length then .ok (.val .none) (putS i (.own (ds.take k.toNat ++ [d] ++ ds.drop k.toNat)) s) else .stuck | _, _ => .stuck) := Eq.trans rfl rfl
def kRem (i : Nat) (r : R) (s : DSt) : Res R := match look r s, s.d[i]? with | some (.int k), some (.own ds) => (match intsD ds with | some ns => (match ns.findIdx? (· == k) with | some j => .ok (.val .none) (putS i (.own ((ns.eraseIdx j).map .int)) s) | none => .stuck) | none => .stuck) | _, _ => .stuck
@[simp] theorem y_kRem (i : Nat) (r : R) (s : DSt) : kRem i r s = (match look r s, s.d[i]? with | some (.int k), some (.own ds) => (match intsD ds with | some ns => (match ns.findIdx? (· == k) with | some j => .ok (.val .none) (putS i (.own ((ns.eraseIdx j).map .int)) s) | none => .stuck) | none => .stuck) | _, _ => .stuck) := Eq.trans rfl rfl
def kAug (i : Nat) (o : Int → Int → Int) (a : Int) (r : R) (s : DSt) : Flow := match look r s with | some (.int b) => if i < s.d.length then .next (putS i (.val (.int (o a b))) s) else .stuck | _ => .stuck
@[simp] theorem y_kAug (i : Nat) (o : Int → Int → Int) (a : Int) (r : R) (s : DSt) : kAug i o a r s = (match look r s with | some (.int b) => if i < s.d.length then .next (putS i (.val (.int (o a b))) s) else .stuck | _ => .stuck) := Eq.trans rfl rfl
def kSetIx2 (i : Nat) (r : R) (k : R) (s : DSt) : Flow := match r, look k s, s.d[i]? with | .val d, some (.int n), some (.own ds) => (match ixN ds.length n with | some j => .next (putS i (.own (ds.set j d)) s) | none => .stuck) | _, _, _ => .stuck
@[simp] theorem y_kSetIx2 (i : Nat) (r : R) (k : R) (s : DSt) : kSetIx2 i r k s = (match r, look k s, s.d[i]? with | .val d, some (.int n), some (.own ds) => (match ixN ds.length n with | some j => .next (putS i (.own (ds.set j d)) s) | none => .stuck) | _, _, _ => .stuck) := Eq.trans rfl rfl
def kSetIx (i : Nat) (g : M R) (r : R) (s : DSt) : Flow := if isOwn i s = true then onRes (g s) (kSetIx2 i r) else .stuck
@[simp] theorem y_kSetIx (i : Nat) (g : M R) (r : R) (s : DSt) : kSetIx i g r s = (if isOwn i s = true then onRes (g s) (kSetIx2 i r) else .stuck) := Eq.trans rfl rfl
def kPar (i j : Nat) (rs : List R) (s : DSt) : Flow := match rs with | [r1, r2] => if i < s.d.length ∧ j < s.d.length then .next (putS j (toSl r2) (putS i (toSl r1) s)) else .stuck | _ => .stuck
@[simp] theorem y_kPar (i j : Nat) (rs : List R) (s : DSt) : kPar i j rs s = (match rs with | [r1, r2] => if i < s.d.length ∧ j < s.d.length then .next (putS j (toSl r2) (putS i (toSl r1) s)) else .stuck | _ => .stuck) := Eq.trans rfl rfl
def kAsgB (b : Bd) (r : R) (s : DSt) : Flow := match r with | .val d => (match b d s with | some s2 => .next s2 | none => .stuck) | _ => .stuck
@[simp] theorem y_kAsgB (b : Bd) (r : R) (s : DSt) : kAsgB b r s = (match r with | .val d => (match b d s with | some s2 => .next s2 | none => .stuck) | _ => .stuck) := Eq.trans rfl rfl
def kLstI2  (r : R) (s : DSt) : Res (List PyData) := match r with | .val (.list ds) => .ok ds s | .val (.tuple ds) => .ok ds s | _ => .stuck
@[simp] theorem y_kLstI2  (r : R) (s : DSt) : kLstI2  r s = (match r with | .val (.list ds) => .ok ds s | .val (.tuple ds) => .ok ds s | _ => .stuck) := Eq.trans rfl rfl
def kLstI  (r : R) (s : DSt) : Res (List PyData) := (fEsc r s).bind kLstI2
@[simp] theorem y_kLstI  (r : R) (s : DSt) : kLstI  r s = ((fEsc r s).bind kLstI2) := Eq.trans rfl rfl
def kTupI  (r : R) (s : DSt) : Res (List PyData) := match look r s with | some (.tuple ds) => .ok ds s | _ => .stuck
@[simp] theorem y_kTupI  (r : R) (s : DSt) : kTupI  r s = (match look r s with | some (.tuple ds) => .ok ds s | _ => .stuck) := Eq.trans rfl rfl
def kRng1  (rs : List R) (s : DSt) : Res (List PyData) := match rs with | [r] => (match look r s with | some (.int j) => if inB j then .ok (rangeD 0 j.toNat) s else .stuck | _ => .stuck) | _ => .stuck
@[simp] theorem y_kRng1  (rs : List R) (s : DSt) : kRng1  rs s = (match rs with | [r] => (match look r s with | some (.int j) => if inB j then .ok (rangeD 0 j.toNat) s else .stuck | _ => .stuck) | _ => .stuck) := Eq.trans rfl rfl
def kRng2  (rs : List R) (s : DSt) : Res (List PyData) := match rs with | [r, r2] => (match look r s, look r2 s with | some (.int i), some (.int j) => if inB i ∧ inB j then .ok (rangeD i (j - i).toNat) s else .stuck | _, _ => .stuck) | _ => .stuck
@[simp] theorem y_kRng2  (rs : List R) (s : DSt) : kRng2  rs s = (match rs with | [r, r2] => (match look r s, look r2 s with | some (.int i), some (.int j) => if inB i ∧ inB j then .ok (rangeD i (j - i).toNat) s else .stuck | _, _ => .stuck) | _ => .stuck) := Eq.trans rfl rfl
def kEnum  (rs : List R) (s : DSt) : Res (List PyData) := match rs with | [.val (.list ds)] => .ok (enumD ds) s | _ => .stuck
@[simp] theorem y_kEnum  (rs : List R) (s : DSt) : kEnum  rs s = (match rs with | [.val (.list ds)] => .ok (enumD ds) s | _ => .stuck) := Eq.trans rfl rfl
def kZip  (rs : List R) (s : DSt) : Res (List PyData) := match rs with | [.val (.list ds), .val (.list es)] => .ok (zipD ds es) s | _ => .stuck
@[simp] theorem y_kZip  (rs : List R) (s : DSt) : kZip  rs s = (match rs with | [.val (.list ds), .val (.list es)] => .ok (zipD ds es) s | _ => .stuck) := Eq.trans rfl rfl
def kUn (o : R → M R) (x : R) (s : DSt) : Res R := o x s
@[simp] theorem y_kUn (o : R → M R) (x : R) (s : DSt) : kUn o x s = (o x s) := Eq.trans rfl rfl
def kIxC (c : Addr) (r : R) (s : DSt) : Res R := match s.w, look r s with | some (pa, ca, cells, t), some (.int n) => if c = ca then match atI cells n with | some z => .ok (.val (.int z)) s | none => .stuck else .stuck | _, _ => .stuck
@[simp] theorem y_kIxC (c : Addr) (r : R) (s : DSt) : kIxC c r s = (match s.w, look r s with | some (pa, ca, cells, t), some (.int n) => if c = ca then match atI cells n with | some z => .ok (.val (.int z)) s | none => .stuck else .stuck | _, _ => .stuck) := Eq.trans rfl rfl
@[simp] theorem x_ixC {i : Nat} {f : M R} {s : DSt} : fIxC i f s = (match s.d[i]? with | some (.raw (.ref c)) => (f s).bind (kIxC c) | _ => .stuck) := Eq.trans rfl rfl
@[simp] theorem x_unP {i j k : Nat} {s : DSt} : fUnP i j k s = (match s.d[i]?, s.w with | some (.raw (.ref p)), some (pa, ca, cells, t) => if p = pa ∧ j < s.d.length ∧ k < s.d.length then .next (putS k (.val (.int t)) (putS j (.raw (.ref ca)) s)) else .stuck | _, _ => .stuck) := Eq.trans rfl rfl
@[simp] theorem x_lenC {i : Nat} {s : DSt} : fLenC i s = (match s.d[i]?, s.w with | some (.raw (.ref c)), some (pa, ca, cells, t) => if c = ca then .ok (.val (.int cells.length)) s else .stuck | _, _ => .stuck) := Eq.trans rfl rfl
def kSetT (i : Nat) (r : R) (s : DSt) : Flow := match s.d[i]?, s.w, look r s with | some (.raw (.ref p)), some (pa, ca, cells, t), some (.int n) => if p = pa then .next ⟨s.d, some (pa, ca, cells, n)⟩ else .stuck | _, _, _ => .stuck
@[simp] theorem y_kSetT (i : Nat) (r : R) (s : DSt) : kSetT i r s = (match s.d[i]?, s.w, look r s with | some (.raw (.ref p)), some (pa, ca, cells, t), some (.int n) => if p = pa then .next ⟨s.d, some (pa, ca, cells, n)⟩ else .stuck | _, _, _ => .stuck) := Eq.trans rfl rfl
@[simp] theorem x_setT {i : Nat} {f : M R} {s : DSt} : fSetT i f s = onRes (f s) (kSetT i) := Eq.trans rfl rfl
def kSetC2 (c : Addr) (z : Option PyData) (k : R) (s : DSt) : Flow := match s.w, z, look k s with | some (pa, ca, cells, t), some (.int z), some (.int n) => if c = ca then match ixN cells.length n with | some j => .next ⟨s.d, some (pa, ca, cells.set j z, t)⟩ | none => .stuck else .stuck | _, _, _ => .stuck
@[simp] theorem y_kSetC2 (c : Addr) (z : Option PyData) (k : R) (s : DSt) : kSetC2 c z k s = (match s.w, z, look k s with | some (pa, ca, cells, t), some (.int z), some (.int n) => if c = ca then match ixN cells.length n with | some j => .next ⟨s.d, some (pa, ca, cells.set j z, t)⟩ | none => .stuck else .stuck | _, _, _ => .stuck) := Eq.trans rfl rfl
def kSetC (i : Nat) (g : M R) (r : R) (s : DSt) : Flow := match s.d[i]? with | some (.raw (.ref c)) => onRes (g s) (kSetC2 c (look r s)) | _ => .stuck
@[simp] theorem y_kSetC (i : Nat) (g : M R) (r : R) (s : DSt) : kSetC i g r s = (match s.d[i]? with | some (.raw (.ref c)) => onRes (g s) (kSetC2 c (look r s)) | _ => .stuck) := Eq.trans rfl rfl
@[simp] theorem x_setC {i : Nat} {f g : M R} {s : DSt} : fSetC i f g s = onRes (f s) (kSetC i g) := Eq.trans rfl rfl
section
variable {α β : Type} {i j k n : Nat} {s s1 s2 : DSt} {f g : M R} {fs : M (List R)} {t u : M Bool} {p q : DSt → Flow} {r x y : R} {d e : PyData} {ds es : List PyData} {v : V} {l : List Sl} {w : Pw} {c : Sl}
@[simp] theorem x_var : fVar i s = (match s.d[i]? with | some (.val d) => .ok (.val d) s | some (.raw v) => .ok (.raw v) s | some (.ob o) => .ok (.ob o) s | some (.own _) => .ok (.slot i) s | _ => .stuck) := Eq.trans rfl rfl
@[simp] theorem x_c : fC d s = .ok (.val d) s := Eq.trans rfl rfl
@[simp] theorem x_raw : fRaw v s = .ok (.raw v) s := Eq.trans rfl rfl
@[simp] theorem x_op {o : R → R → M R} : fOp o f g s = (f s).bind (kOp o g) := Eq.trans rfl rfl
@[simp] theorem x_look_val : look (.val d) s = some d := Eq.trans rfl rfl
@[simp] theorem x_look_new : look (.new ds) s = some (.list ds) := Eq.trans rfl rfl
@[simp] theorem x_look_raw : look (.raw v) s = none := Eq.trans rfl rfl
@[simp] theorem x_look_ob {o : OD} : look (.ob o) s = none := Eq.trans rfl rfl
@[simp] theorem x_look_slot : look (.slot i) s = (match s.d[i]? with | some (.own ds) => some (.list ds) | some (.val d) => some d | _ => none) := Eq.trans rfl rfl
@[simp] theorem x_lift1 {o : PyData → Option R} : lift1 o x s = (match look x s with | some d => (match o d with | some (.slot _) => .stuck | some r => .ok r s | none => .stuck) | none => .stuck) := Eq.trans rfl rfl
@[simp] theorem x_lift2 {o : PyData → PyData → Option R} : lift2 o x y s = (match look x s, look y s with | some d, some e => (match o d e with | some (.slot _) => .stuck | some r => .ok r s | none => .stuck) | _, _ => .stuck) := Eq.trans rfl rfl
@[simp] theorem x_B : fB f s = (f s).bind kB := Eq.trans rfl rfl
@[simp] theorem x_and : fAnd t u s = (t s).bind (kAnd u) := by
  show Res.bind _ _ = _
  congr 1
  funext b s
  cases b <;> rfl
@[simp] theorem x_or : fOr t u s = (t s).bind (kOr u) := by
  show Res.bind _ _ = _
  congr 1
  funext b s
  cases b <;> rfl
@[simp] theorem x_not : fNot t s = (t s).bind kNot := Eq.trans rfl rfl
@[simp] theorem x_V : fV t s = (t s).bind kV := Eq.trans rfl rfl
@[simp] theorem x_andV : fAndV f g s = (fB f s).bind (kAndV g) := by
  show Res.bind _ _ = _
  congr 1
  funext b s
  cases b <;> rfl
@[simp] theorem x_orV : fOrV f g s = (fB f s).bind (kOrV g) := by
  show Res.bind _ _ = _
  congr 1
  funext b s
  cases b <;> rfl
@[simp] theorem x_if : fIf t f g s = (t s).bind (kIf f g) := by
  show Res.bind _ _ = _
  congr 1
  funext b s
  cases b <;> rfl
@[simp] theorem x_esc_val : esc (.val d) s = some (.val d, s) := Eq.trans rfl rfl
@[simp] theorem x_esc_raw : esc (.raw v) s = some (.raw v, s) := Eq.trans rfl rfl
@[simp] theorem x_esc_ob {o : OD} : esc (.ob o) s = some (.ob o, s) := Eq.trans rfl rfl
@[simp] theorem x_esc_new : esc (.new ds) s = some (.val (.list ds), s) := Eq.trans rfl rfl
@[simp] theorem x_esc_slot : esc (.slot i) s = (match s.d[i]? with | some (.own ds) => some (.val (.list ds), ⟨s.d.set i (.val (.list ds)), s.w⟩) | some (.val d) => some (.val d, s) | _ => none) := Eq.trans rfl rfl
@[simp] theorem x_Esc : fEsc r s = (match esc r s with | some (r', s') => .ok r' s' | none => .stuck) := Eq.trans rfl rfl
@[simp] theorem x_nil : fNil s = .ok [] s := Eq.trans rfl rfl
@[simp] theorem x_cons : fCons f fs s = (f s).bind (kCons fs) := Eq.trans rfl rfl
@[simp] theorem x_pcons : pCons f fs s = (f s).bind (kCons2 fs) := Eq.trans rfl rfl
@[simp] theorem x_datas_nil : datas [] = some [] := Eq.trans rfl rfl
@[simp] theorem x_datas_cons {rs : List R} : datas (.val d :: rs) = (datas rs).map (d :: ·) := Eq.trans rfl rfl
@[simp] theorem x_lst : fLst fs s = (fs s).bind kLst := Eq.trans rfl rfl
@[simp] theorem x_tup : fTup fs s = (fs s).bind kTup := Eq.trans rfl rfl
@[simp] theorem x_part : fPart f s = (f s).bind kPart := Eq.trans rfl rfl
@[simp] theorem x_nopart : fNoPart s = .ok none s := Eq.trans rfl rfl
@[simp] theorem x_slice {a b : M (Option Int)} : fSlice f a b s = (f s).bind (kSl1 a b) := Eq.trans rfl rfl
@[simp] theorem x_un {o : R → M R} : fUn o f s = (f s).bind (kUn o) := Eq.trans rfl rfl
@[simp] theorem x_isN {b : Bool} : fIsN b f s = (f s).bind (kIsN b) := Eq.trans rfl rfl
@[simp] theorem x_isN_val : isNR (.val d) s = some (match d with | .none => true | _ => false) := by cases d <;> rfl
@[simp] theorem x_isN_ob {o : OD} : isNR (.ob o) s = some false := Eq.trans rfl rfl
@[simp] theorem x_isN_new : isNR (.new ds) s = some false := Eq.trans rfl rfl
@[simp] theorem x_isN_slot : isNR (.slot i) s = (match s.d[i]? with | some (.own _) => some false | some (.val d) => some (match d with | .none => true | _ => false) | _ => none) := by
  show (match look (.slot i) s with | some .none => some true | some _ => some false | none => none) = _
  rw [x_look_slot]
  cases s.d[i]? with
  | none => rfl
  | some c =>
    cases c with
    | val d => cases d <;> rfl
    | _ => rfl
@[simp] theorem x_onRes_ok {a : α} {h : α → DSt → Flow} : onRes (.ok a s) h = h a s := Eq.trans rfl rfl
@[simp] theorem x_onRes_err {z : Exn} {h : α → DSt → Flow} : onRes (.err z s) h = .err z s := Eq.trans rfl rfl
@[simp] theorem x_onRes_stuck {h : α → DSt → Flow} : onRes .stuck h = .stuck := Eq.trans rfl rfl
@[simp] theorem x_seq : fseq p q s = andThen (p s) q := Eq.trans rfl rfl
@[simp] theorem x_next : fnext s = .next s := Eq.trans rfl rfl
@[simp] theorem x_brk : fbrk s = .brk s := Eq.trans rfl rfl
@[simp] theorem x_cnt : fcnt s = .cnt s := Eq.trans rfl rfl
@[simp] theorem x_never : fnever s = .stuck := Eq.trans rfl rfl
@[simp] theorem x_drop : fDrop f s = onRes (f s) kDrop := Eq.trans rfl rfl
@[simp] theorem x_ret : fRet f s = onRes (f s) Flow.ret := Eq.trans rfl rfl
@[simp] theorem x_retN : fRetN s = .ret (.val .none) s := Eq.trans rfl rfl
@[simp] theorem x_ifS : fIfS t p q s = onRes (t s) (kIfS p q) := by
  show onRes _ _ = _
  congr 1
@[simp] theorem x_store_val : store i (.val d) s = some (putS i (.val d) s) := Eq.trans rfl rfl
@[simp] theorem x_store_raw : store i (.raw v) s = some (putS i (.raw v) s) := Eq.trans rfl rfl
@[simp] theorem x_store_ob {o : OD} : store i (.ob o) s = some (putS i (.ob o) s) := Eq.trans rfl rfl
@[simp] theorem x_store_new : store i (.new ds) s = some (putS i (.own ds) s) := Eq.trans rfl rfl
@[simp] theorem x_store_slot : store i (.slot j) s = (match s.d[j]? with | some (.own ds) => some (putS i (.val (.list ds)) (putS j (.val (.list ds)) s)) | some (.val d) => some (putS i (.val d) s) | _ => none) := Eq.trans rfl rfl
@[simp] theorem x_putS : putS i c ⟨l, w⟩ = ⟨l.set i c, w⟩ := Eq.trans rfl rfl
@[simp] theorem x_set : fSet i f s = onRes (f s) (kSet i) := Eq.trans rfl rfl
@[simp] theorem x_user {F : List R → Pw → FRes} : fUser F fs s = (fs s).bind (kUser F) := Eq.trans rfl rfl
@[simp] theorem x_call {o : List PyData → Option R} : fCall o fs s = (fs s).bind (kCall o) := Eq.trans rfl rfl
@[simp] theorem x_looks_nil : looks [] s = some [] := Eq.trans rfl rfl
@[simp] theorem x_looks_cons {rs : List R} : looks (r :: rs) s = (match look r s, looks rs s with | some d, some ds => some (d :: ds) | _, _ => none) := Eq.trans rfl rfl
@[simp] theorem x_isi {m : String} : fIsi m f s = (f s).bind (kIsi m) := Eq.trans rfl rfl
@[simp] theorem x_lenSet : fLenSet f s = (f s).bind kLenSet := Eq.trans rfl rfl
@[simp] theorem x_isLst_val : isLst (.val (.list ds)) s = true := Eq.trans rfl rfl
@[simp] theorem x_isLst_new : isLst (.new ds) s = true := Eq.trans rfl rfl
@[simp] theorem x_isLst_slot : isLst (.slot i) s = (match s.d[i]? with | some (.own _) => true | some (.val (.list _)) => true | _ => false) := by
  show (match look (.slot i) s with | some (.list _) => true | _ => false) = _
  rw [x_look_slot]
  cases s.d[i]? with
  | none => rfl
  | some c =>
    cases c with
    | val d => cases d <;> rfl
    | _ => rfl
@[simp] theorem x_index : fIndex g f s = (g s).bind (kIdx f) := by
  show Res.bind _ _ = _
  congr 1
@[simp] theorem x_isOwn : isOwn i s = (match s.d[i]? with | some (.own _) => true | _ => false) := Eq.trans rfl rfl
@[simp] theorem x_app : fApp i f s = if isOwn i s = true then (f s).bind (kApp1 i) else .stuck := Eq.trans rfl rfl
@[simp] theorem x_pop : fPop i s = (match s.d[i]? with | some (.own ds) => (match ds[ds.length - 1]? with | some d => .ok (.val d) (putS i (.own ds.dropLast) s) | none => .stuck) | _ => .stuck) := Eq.trans rfl rfl
@[simp] theorem x_popAt : fPopAt i f s = if isOwn i s = true then (f s).bind (kPopAt i) else .stuck := Eq.trans rfl rfl
@[simp] theorem x_ins : fIns i fs s = if isOwn i s = true then (fs s).bind (kIns i) else .stuck := Eq.trans rfl rfl
@[simp] theorem x_rem : fRem i f s = if isOwn i s = true then (f s).bind (kRem i) else .stuck := Eq.trans rfl rfl
@[simp] theorem x_clear : fClear i s = (match s.d[i]? with | some (.own _) => .ok (.val .none) (putS i (.own []) s) | _ => .stuck) := Eq.trans rfl rfl
@[simp] theorem x_aug {o : Int → Int → Int} : fAug i o f s = (match s.d[i]? with | some (.val (.int a)) => onRes (f s) (kAug i o a) | _ => .stuck) := Eq.trans rfl rfl
@[simp] theorem x_setIx : fSetIx i f g s = onRes ((f s).bind fEsc) (kSetIx i g) := Eq.trans rfl rfl
@[simp] theorem x_toSl_val : toSl (.val d) = .val d := Eq.trans rfl rfl
@[simp] theorem x_toSl_ob {o : OD} : toSl (.ob o) = .ob o := Eq.trans rfl rfl
@[simp] theorem x_toSl_raw : toSl (.raw v) = .raw v := Eq.trans rfl rfl
@[simp] theorem x_par : fPar i j fs s = onRes (fs s) (kPar i j) := Eq.trans rfl rfl
@[simp] theorem x_bName : bName i d s = if i < s.d.length then some (putS i (.val d) s) else none := Eq.trans rfl rfl
@[simp] theorem x_bTup {bs : Bds} : bTup n bs (.tuple ds) s = if ds.length = n then bs ds s else none := Eq.trans rfl rfl
@[simp] theorem x_bSeq_t {bs : Bds} : bSeq n bs (.tuple ds) s = if ds.length = n then bs ds s else none := Eq.trans rfl rfl
@[simp] theorem x_bSeq_l {bs : Bds} : bSeq n bs (.list ds) s = if ds.length = n then bs ds s else none := Eq.trans rfl rfl
@[simp] theorem x_bNil : bNil [] s = some s := Eq.trans rfl rfl
@[simp] theorem x_bCons {b : Bd} {bs : Bds} : bCons b bs (d :: ds) s = (match b d s with | some s' => bs ds s' | none => none) := Eq.trans rfl rfl
@[simp] theorem x_asgB {b : Bd} : fAsgB f b s = onRes ((f s).bind fEsc) (kAsgB b) := Eq.trans rfl rfl
@[simp] theorem x_lstI : fLstI f s = (f s).bind kLstI := Eq.trans rfl rfl
@[simp] theorem x_tupI : fTupI f s = (f s).bind kTupI := Eq.trans rfl rfl
@[simp] theorem x_rng1 : fRng1 fs s = (fs s).bind kRng1 := Eq.trans rfl rfl
@[simp] theorem x_rng2 : fRng2 fs s = (fs s).bind kRng2 := Eq.trans rfl rfl
@[simp] theorem x_enum : fEnum fs s = (fs s).bind kEnum := Eq.trans rfl rfl
@[simp] theorem x_zip : fZip fs s = (fs s).bind kZip := Eq.trans rfl rfl
@[simp] theorem x_for {fi : M (List PyData)} {b : Bd} : fFor fi b p s = onRes (fi s) (loopF b p) := Eq.trans rfl rfl
@[simp] theorem x_yes : fYes s = .ok true s := Eq.trans rfl rfl
@[simp] theorem x_addII {a b : Int} : addO (.int a) (.int b) = some (.val (.int (a + b))) := Eq.trans rfl rfl
@[simp] theorem x_addLL : addO (.list ds) (.list es) = if leS (ds.length + es.length) then some (.new (ds ++ es)) else none := Eq.trans rfl rfl
@[simp] theorem x_addTT : addO (.tuple ds) (.tuple es) = if leS (ds.length + es.length) then some (.val (.tuple (ds ++ es))) else none := Eq.trans rfl rfl
@[simp] theorem x_sub {a b : Int} : subO (.int a) (.int b) = some (.val (.int (a - b))) := Eq.trans rfl rfl
theorem x_mul {a b : Int} : mulO (.int a) (.int b) = if lgM a b then some (.val (.int (a * b))) else none := Eq.trans rfl rfl
@[simp] theorem x_mulL {k : Int} : mulO (.list ds) (.int k) = if inW k ∧ leS (ds.length * k.toNat) then some (.new (List.replicate k.toNat ds).flatten) else none := Eq.trans rfl rfl
theorem x_fdiv {a b : Int} : fdivO (.int a) (.int b) = if 0 < b ∧ lgD b then some (.val (.int (a / b))) else none := Eq.trans rfl rfl
theorem x_mod {a b : Int} : modO (.int a) (.int b) = if 0 < b then some (.val (.int (a % b))) else none := Eq.trans rfl rfl
theorem x_pow {a b : Int} : powO (.int a) (.int b) = if 0 ≤ b ∧ leP b ∧ lgP a then some (.val (.int (a ^ b.toNat))) else none := Eq.trans rfl rfl
@[simp] theorem x_lt {a b : Int} : ltO (.int a) (.int b) = some (.val (.bool (decide (a < b)))) := Eq.trans rfl rfl
@[simp] theorem x_le {a b : Int} : leO (.int a) (.int b) = some (.val (.bool (decide (a ≤ b)))) := Eq.trans rfl rfl
@[simp] theorem x_gt {a b : Int} : gtO (.int a) (.int b) = some (.val (.bool (decide (b < a)))) := Eq.trans rfl rfl
@[simp] theorem x_ge {a b : Int} : geO (.int a) (.int b) = some (.val (.bool (decide (b ≤ a)))) := Eq.trans rfl rfl
@[simp] theorem x_neg {a : Int} : negO (.int a) = some (.val (.int (-a))) := Eq.trans rfl rfl
@[simp] theorem x_rev : revO (.list ds) = some (.new ds.reverse) := Eq.trans rfl rfl
@[simp] theorem x_ixL {a : Int} : ixO (.list ds) (.int a) = (atI ds a).map .val := Eq.trans rfl rfl
@[simp] theorem x_ixT {a : Int} : ixO (.tuple ds) (.int a) = (atI ds a).map .val := Eq.trans rfl rfl
@[simp] theorem x_lenL : lenO [.list ds] = some (.val (.int ds.length)) := Eq.trans rfl rfl
@[simp] theorem x_lenT : lenO [.tuple ds] = some (.val (.int ds.length)) := Eq.trans rfl rfl
@[simp] theorem x_listL : listO [.list ds] = some (.new ds) := Eq.trans rfl rfl
@[simp] theorem x_listT : listO [.tuple ds] = some (.new ds) := Eq.trans rfl rfl
@[simp] theorem x_tupL : tupleO [.list ds] = some (.val (.tuple ds)) := Eq.trans rfl rfl
@[simp] theorem x_sliceL {lo hi : Option Int} : sliceO (.list ds) lo hi = some (.new (cutD ds lo hi)) := Eq.trans rfl rfl
@[simp] theorem x_sliceT {lo hi : Option Int} : sliceO (.tuple ds) lo hi = some (.val (.tuple (cutD ds lo hi))) := Eq.trans rfl rfl
@[simp] theorem x_allO : allO [.list ds] = (boolsD ds).map fun bs => .val (.bool (bs.all id)) := Eq.trans rfl rfl
@[simp] theorem x_anyO : anyO [.list ds] = (boolsD ds).map fun bs => .val (.bool (bs.any id)) := Eq.trans rfl rfl
@[simp] theorem x_sumO : sumO [.list ds] = (intsD ds).map fun bs => .val (.int bs.sum) := Eq.trans rfl rfl
@[simp] theorem x_sortedO : sortedO [.list ds] = (match intsD ds with | some ns => some (.new ((sortI ns).map .int)) | none => if canSort ds then some (.new (sortDD ds)) else none) := Eq.trans rfl rfl
@[simp] theorem x_absO {a : Int} : absO [.int a] = some (.val (.int (if a < 0 then -a else a))) := Eq.trans rfl rfl
@[simp] theorem x_intI {a : Int} : intO [.int a] = some (.val (.int a)) := Eq.trans rfl rfl
@[simp] theorem x_intB {b : Bool} : intO [.bool b] = some (.val (.int (if b then 1 else 0))) := Eq.trans rfl rfl
@[simp] theorem x_max2 {a b : Int} : maxO [.int a, .int b] = some (.val (.int (if b > a then b else a))) := Eq.trans rfl rfl
@[simp] theorem x_min2 {a b : Int} : minO [.int a, .int b] = some (.val (.int (if b < a then b else a))) := Eq.trans rfl rfl
@[simp] theorem x_isT_int {a : Int} {m : String} : isT m (.int a) = (m == "int") := by simp [isT, isN, tyN]
@[simp] theorem x_isT_bool {a : Bool} {m : String} : isT m (.bool a) = (m == "bool" || m == "int") := by simp [isT, isN, tyN]
@[simp] theorem x_isT_list {m : String} : isT m (.list ds) = (m == "list") := by simp [isT, isN, tyN]
@[simp] theorem x_isT_tuple {m : String} : isT m (.tuple ds) = (m == "tuple") := by simp [isT, isN, tyN]
@[simp] theorem x_isT_str {a : Str} {m : String} : isT m (.str a) = (m == "str") := by simp [isT, isN, tyN]
@[simp] theorem x_isT_none {m : String} : isT m .none = (m == "NoneType") := by simp [isT, isN, tyN]
@[simp] theorem x_finR_val : finR (.val d) s = some (.val d) := Eq.trans rfl rfl
@[simp] theorem x_finR_new : finR (.new ds) s = some (.new ds) := Eq.trans rfl rfl
@[simp] theorem x_finR_raw : finR (.raw v) s = some (.raw v) := Eq.trans rfl rfl
@[simp] theorem x_finR_ob {o : OD} : finR (.ob o) s = some (.ob o) := Eq.trans rfl rfl
@[simp] theorem x_finR_slot : finR (.slot i) s = (match s.d[i]? with | some (.own ds) => some (.new ds) | some (.val d) => some (.val d) | _ => none) := Eq.trans rfl rfl
theorem x_runF {m : Nat} {rs : List R} : runF n m p rs w = if rs.length = m then finF (p ⟨rs.map toSl ++ List.replicate (n - m) .no, w⟩) else .stuck := Eq.trans rfl rfl
end
/-! ### loops -/
theorem loopF_inv {b : Bd} {p : DSt → Flow} (Inv : Nat → DSt → Prop) {ds : List PyData} {s : DSt} (h0 : Inv 0 s) (step : ∀ (i : Nat) (d : PyData) (s : DSt), ds[i]? = some d → Inv i s → ∃ s1 s2, b d s = some s1 ∧ p s1 = .next s2 ∧ Inv (i + 1) s2) : ∃ s', loopF b p ds s = .next s' ∧ Inv ds.length s' := by
  induction ds generalizing s Inv with
  | nil => exact ⟨s, rfl, h0⟩
  | cons d ds ih =>
    obtain ⟨s1, s2, e1, e2, h2⟩ := step 0 d s rfl h0
    obtain ⟨s', e, h⟩ := ih (fun i => Inv (i + 1)) h2 fun i d s hi h => step (i + 1) d s (by simpa using hi) h
    refine ⟨s', ?_, h⟩
    unfold loopF
    simp only [e1, e2]
    exact e
/-- a loop that may hand back -/
theorem loopF_ret {b : Bd} {p : DSt → Flow} (Inv : Nat → DSt → Prop) (Post : R → DSt → Prop) {ds : List PyData} {s : DSt} (h0 : Inv 0 s)
    (step : ∀ (i : Nat) (d : PyData) (s : DSt), ds[i]? = some d → Inv i s → ∃ s1, b d s = some s1 ∧ ((∃ s2, p s1 = .next s2 ∧ Inv (i + 1) s2) ∨ ∃ r s2, p s1 = .ret r s2 ∧ Post r s2)) :
    (∃ s', loopF b p ds s = .next s' ∧ Inv ds.length s') ∨ ∃ r s', loopF b p ds s = .ret r s' ∧ Post r s' := by
  induction ds generalizing s Inv with
  | nil => exact .inl ⟨s, rfl, h0⟩
  | cons d ds ih =>
    obtain ⟨s1, e1, h1⟩ := step 0 d s rfl h0
    rcases h1 with ⟨s2, e2, h2⟩ | ⟨r, s2, e2, h2⟩
    · have := ih (fun i => Inv (i + 1)) h2 fun i d s hi h => step (i + 1) d s (by simpa using hi) h
      unfold loopF
      simp only [e1, e2]
      exact this
    · refine .inr ⟨r, s2, ?_, h2⟩
      unfold loopF
      simp only [e1, e2]
theorem whileF_inv {c : M Bool} {p : DSt → Flow} (Inv : DSt → Prop) (m : DSt → Nat) (n : Nat) {s : DSt} (h0 : Inv s) (hn : m s < n)
    (step : ∀ s, Inv s → (∃ s1, c s = .ok true s1 ∧ ∃ s2, p s1 = .next s2 ∧ Inv s2 ∧ m s2 < m s) ∨ (c s = .ok false s)) : ∃ s', whileF c p n s = .next s' ∧ Inv s' ∧ c s' = .ok false s' := by
  induction n generalizing s with
  | zero => omega
  | succ n ih =>
    rcases step s h0 with ⟨s1, e1, s2, e2, h2, hm⟩ | e
    · obtain ⟨s', e, h⟩ := ih h2 (by omega)
      refine ⟨s', ?_, h⟩
      unfold whileF
      simp only [e1, x_onRes_ok, if_true, e2]
      exact e
    · refine ⟨s, ?_, h0, e⟩
      unfold whileF
      simp [e]
/-! ### comprehensions -/
theorem loopC_pure {b : Bd} {ft : M Bool} {fe : M R} {vs : List Nat} {s : DSt} (sb : PyData → DSt) (keep : PyData → Bool) (g : PyData → PyData) (hn : noOwn vs s.d = true) : ∀ (ds acc : List PyData),
    (∀ d ∈ ds, b d ⟨blank vs s.d, s.w⟩ = some (sb d)) → (∀ d ∈ ds, (⟨putBack vs s.d (sb d).d, (sb d).w⟩ : DSt) = s) → (∀ d ∈ ds, ft (sb d) = .ok (keep d) (sb d)) → (∀ d ∈ ds, keep d = true → (fe (sb d)).bind fEsc = .ok (.val (g d)) (sb d)) →
    loopC b ft fe vs ds acc s = .ok (acc ++ (ds.filter keep).map g) s
  | [], acc, _, _, _, _ => by simp [loopC]
  | d :: ds, acc, h1, h2, h3, h4 => by
    have ih := fun acc => loopC_pure sb keep g hn ds acc (fun d hd => h1 d (List.mem_cons_of_mem _ hd)) (fun d hd => h2 d (List.mem_cons_of_mem _ hd)) (fun d hd => h3 d (List.mem_cons_of_mem _ hd)) (fun d hd => h4 d (List.mem_cons_of_mem _ hd))
    have e1 := h1 d List.mem_cons_self
    have e2 := h2 d List.mem_cons_self
    have e3 := h3 d List.mem_cons_self
    unfold loopC
    rw [if_pos hn, e1]
    dsimp only
    rw [e3]
    cases k : keep d with
    | false =>
      show loopC b ft fe vs ds acc _ = _
      rw [e2, ih]
      simp [k]
    | true =>
      have e4 := h4 d List.mem_cons_self k
      show (nerr (bnd fe fEsc (sb d))).bind _ = _
      rw [bnd_app, e4]
      show loopC b ft fe vs ds (acc ++ [g d]) _ = _
      rw [e2, ih]
      simp [k]
theorem blank_one (j : Nat) (d : List Sl) : blank [j] d = d.set j .no := rfl
theorem back_one (j : Nat) (o d : List Sl) : putBack [j] o d = d.set j (o.getD j .no) := rfl
theorem set_back {d : List Sl} {j : Nat} {x : Sl} (hj : j < d.length) : ((d.set j .no).set j x).set j (d.getD j .no) = d := by
  rw [List.set_set, List.set_set]
  apply List.ext_getElem?
  intro i
  rw [List.getElem?_set]
  split
  · rename_i e
    subst e
    rw [List.getD_eq_getElem?_getD, List.getElem?_eq_getElem hj]
    rfl
  · rfl
/-- one name, an element that changes nothing -/
theorem lc_one {fi : M (List PyData)} {ft : M Bool} {fe : M R} {j : Nat} {s s1 : DSt} {ds : List PyData} (keep : PyData → Bool) (g : PyData → PyData) (hi : fi s = .ok ds s1) (hj : j < s1.d.length) (hn : noOwn [j] s1.d = true) (hl : leS ds.length)
    (ht : ∀ d ∈ ds, ft ⟨s1.d.set j (.val d), s1.w⟩ = .ok (keep d) ⟨s1.d.set j (.val d), s1.w⟩) (he : ∀ d ∈ ds, keep d = true → (fe ⟨s1.d.set j (.val d), s1.w⟩).bind fEsc = .ok (.val (g d)) ⟨s1.d.set j (.val d), s1.w⟩) :
    fLc fi (bName j) ft fe [j] s = .ok (.new ((ds.filter keep).map g)) s1 := by
  unfold fLc
  simp only [bnd_app, hi, bind_ok, if_pos hl]
  have e : ∀ d : PyData, (s1.d.set j Sl.no).set j (.val d) = s1.d.set j (.val d) := fun d => List.set_set ..
  rw [loopC_pure (fun d => ⟨s1.d.set j (.val d), s1.w⟩) keep g hn ds [] (fun d _ => ?_) (fun d _ => ?_) ht he]
  · simp
  · rw [blank_one]
    simp only [x_bName, List.length_set, if_pos hj, x_putS, e]
  · simp only [back_one]
    rw [← e d, set_back hj]
/-- .. over all items -/
theorem lc_map {fi : M (List PyData)} {fe : M R} {j : Nat} {s s1 : DSt} {ds : List PyData} (g : PyData → PyData) (hi : fi s = .ok ds s1) (hj : j < s1.d.length) (hn : noOwn [j] s1.d = true) (hl : leS ds.length)
    (he : ∀ d ∈ ds, (fe ⟨s1.d.set j (.val d), s1.w⟩).bind fEsc = .ok (.val (g d)) ⟨s1.d.set j (.val d), s1.w⟩) : fLc fi (bName j) fYes fe [j] s = .ok (.new (ds.map g)) s1 := by
  rw [lc_one (ft := fYes) (fun _ => true) g hi hj hn hl (fun _ _ => rfl) (fun d hd _ => he d hd), List.filter_eq_self.mpr (fun _ _ => rfl)]
end DL

/-! DL16: what is asked of a law's own body, and the end -/
noncomputable section
namespace DL
open PySem L2 PyProof.Rows
def PurseOk (n : Nat) (p : DSt → Flow) : Prop := ∀ (a : Addr) (ns : List Int), ns.length ≤ 63 → ∃ (cells : List Int) (s' : DSt), p ⟨.raw (.ref a) :: .own (ns.map .int) :: List.replicate (n - 2) .no, none⟩ = .ret (.new [.list (cells.map .int), .int 0]) s' ∧ cells ≠ [] ∧ cells.length ≤ 63
def LawOk (n : Nat) (p : DSt → Flow) : Prop := ∀ (a pa ca : Addr) (cells : List Int), pa ≠ ca → cells ≠ [] → cells.length ≤ 63 → ∃ s', p ⟨(Sl.raw (.ref a) :: List.replicate (n - 1) Sl.no).set 1 (.raw (.ref pa)), some (pa, ca, cells, 0)⟩ = .ret (.val (.bool true)) s'
theorem wr_mk {K : PySem.W.Frag} {h : Heap} {mg : Str → Option Value} {x : Str} {st : Stmt} {f : Addr} {oc : Value} {od an : Option Addr} {osl : Array (Option Value)} {kV doc pm cdv ct : Value} {ps : List Str} (X : K.In h) (G : h.Ns mainGlobals mg)
    (a : PySem.W.nsIn K mainGlobals x = some (some (.ref f))) (l : K.lookup f = some ⟨oc, od, .func (PySem.W.fnOf x x (defArgs st) (defBody st) (defScope st) .none kV doc pm an cdv ct), osl⟩)
    (c : PySem.W.codeIn K cdv x = true) (k : PySem.W.keepIn K (.ref f) = true) (h : ∀ (kV doc pm : Value) (an : Option Addr) (cdv ct : Value) (us : List Value), us.length = ps.length → bindArgs (PySem.W.fnOf x x (defArgs st) (defBody st) (defScope st) .none kV doc pm an cdv ct) ⟨us, []⟩ = pure (ps.zip us)) : Wr K mg x st ps :=
  ⟨f, _, fun_mk l c k, PySem.W.mg_of X G a, (fun_mk l c k).binds h⟩
theorem walk {l : PySem.W.OpenLaw} {q : Program} {loose : List Str} {XP : (Str → Option Value) → Heap → Prop} {YP : World → Heap → Prop} {d : DefRec} {K : Params → PySem.W.Frag} {k : Nat} {x : Str} (hn : l.most = some 63) (hdf : d.params.defaults = []) (hr : Room k callerA)
    (hY : ∀ (w : World) (h : Heap), YP w h → (K w.params).In h)
    (F : ∀ (w : World) (mg : Str → Option Value) (fa : Addr) (h : Heap), (K w.params).In h → h.Ns mainGlobals mg → mg d.name = some (.ref fa) →
      ∃ fd : FuncData, (∀ (s : Shared) (u : Value), BindsTo s fd ⟨[u], []⟩ [(x, u)]) ∧ ∀ base : Heap, (K w.params).In base → base.Ns mainGlobals mg → FnG l.prog w (K w.params) mg base (L2.CX l.prog w) k fa fd [x] (spLaw (K w.params))) :
    PySem.W.WalkO q loose XP YP l.row.toRowW d [] (fun f vs => PySem.call f vs) := by
  refine Att.attach_call hn hdf fun w _ s1 mg mb fa _ _ _ _ a us ns G Y _ _ _ hmg scr hi hl g0 => ?_
  have KX := hY w _ Y
  obtain ⟨fd, bi, FF⟩ := F w mg fa _ KX G.T.g hmg
  exact law_goes KX G.T.g G.T.b G.T.builtins G.T.nolimit g0 scr hi (Nat.le_trans hl (by decide)) hr FF bi fun H _ hS => ⟨a, ns, rfl, hS, hl, fun _ => rfl⟩
end DL

/-! DL17: data in plain words: equality, places, cuts -/
noncomputable section
namespace DL
open PySem L2
/-! ### no truth value and no dict within: == is equality -/
mutual
def calmD : PyData → Bool
  | .none | .int _ | .str _ => true
  | .list xs | .tuple xs => calmA xs
  | _ => false
def calmA : List PyData → Bool
  | [] => true
  | x :: xs => calmD x && calmA xs
end
mutual
theorem eqv_calm : ∀ d e : PyData, calmD d = true → calmD e = true → (PyData.eqv d e = true ↔ d = e)
  | .none, e, _, h => by cases e <;> simp [PyData.eqv, calmD] at *
  | .int i, e, _, h => by cases e <;> simp [PyData.eqv, calmD] at *
  | .str i, e, _, h => by cases e <;> simp [PyData.eqv, calmD] at *
  | .list xs, e, h1, h => by
    cases e <;> simp [PyData.eqv, calmD] at *
    rename_i ys
    exact eqvAll_calm xs ys h1 h
  | .tuple xs, e, h1, h => by
    cases e <;> simp [PyData.eqv, calmD] at *
    rename_i ys
    exact eqvAll_calm xs ys h1 h
  | .bool _, _, h, _ => by simp [calmD] at h
  | .dict _, _, h, _ => by simp [calmD] at h
theorem eqvAll_calm : ∀ xs ys : List PyData, calmA xs = true → calmA ys = true → (PyData.eqvAll xs ys = true ↔ xs = ys)
  | [], ys, _, _ => by cases ys <;> simp [PyData.eqvAll]
  | x :: xs, ys, h1, h => by
    cases ys with
    | nil => simp [PyData.eqvAll]
    | cons y ys =>
      simp [calmA] at h1 h
      simp [PyData.eqvAll, eqv_calm x y h1.1 h.1, eqvAll_calm xs ys h1.2 h.2]
end
theorem eqv_dec {d e : PyData} {p : Prop} [Decidable p] (h1 : calmD d = true) (h2 : calmD e = true) (h : d = e ↔ p) : PyData.eqv d e = decide p := by
  rw [Bool.eq_iff_iff, eqv_calm d e h1 h2, h]
  simp
theorem calmA_iff {xs : List PyData} : calmA xs = true ↔ ∀ x ∈ xs, calmD x = true := by
  induction xs with
  | nil => simp [calmA]
  | cons x xs ih => simp [calmA, ih]
@[simp] theorem calm_int {i : Int} : calmD (.int i) = true := rfl
@[simp] theorem calm_str {i : Str} : calmD (.str i) = true := rfl
@[simp] theorem calm_none : calmD .none = true := rfl
@[simp] theorem calm_list {xs : List PyData} : calmD (.list xs) = calmA xs := rfl
@[simp] theorem calm_tuple {xs : List PyData} : calmD (.tuple xs) = calmA xs := rfl
@[simp] theorem calm_nil : calmA [] = true := rfl
@[simp] theorem calm_cons {x : PyData} {xs : List PyData} : calmA (x :: xs) = (calmD x && calmA xs) := rfl
@[simp] theorem calm_map {α : Type} {f : α → PyData} {l : List α} : calmA (l.map f) = l.all fun a => calmD (f a) := by
  induction l with
  | nil => rfl
  | cons a l ih => simp [ih]
@[simp] theorem calm_app {xs ys : List PyData} : calmA (xs ++ ys) = (calmA xs && calmA ys) := by
  induction xs with
  | nil => simp
  | cons a l ih => simp [ih, Bool.and_assoc]
theorem depthAll_le {xs : List PyData} {n : Nat} : PyData.depthAll xs ≤ n ↔ ∀ x ∈ xs, x.depth ≤ n := by
  induction xs with
  | nil => simp [PyData.depthAll]
  | cons x xs ih => simp [PyData.depthAll, ih, Nat.max_le]
@[simp] theorem dep_int {i : Int} : (PyData.int i).depth = 0 := rfl
@[simp] theorem dep_str {i : Str} : (PyData.str i).depth = 0 := rfl
@[simp] theorem dep_bool {i : Bool} : (PyData.bool i).depth = 0 := rfl
@[simp] theorem dep_none : (PyData.none).depth = 0 := rfl
@[simp] theorem dep_list {xs : List PyData} : (PyData.list xs).depth = PyData.depthAll xs + 1 := rfl
@[simp] theorem dep_tuple {xs : List PyData} : (PyData.tuple xs).depth = PyData.depthAll xs + 1 := rfl
@[simp] theorem dep_nil : PyData.depthAll [] = 0 := rfl
@[simp] theorem dep_cons {x : PyData} {xs : List PyData} : PyData.depthAll (x :: xs) = max x.depth (PyData.depthAll xs) := rfl
@[simp] theorem dep_ints {ns : List Int} : PyData.depthAll (ns.map .int) = 0 := by
  induction ns with
  | nil => rfl
  | cons a l ih => simp [ih]
theorem eqO_calm {d e : PyData} {p : Prop} [Decidable p] (h1 : calmD d = true) (h2 : calmD e = true) (hp : d = e ↔ p) (h : d.depth ≤ 60) : eqO d e = some (.val (.bool (decide p))) := by
  unfold eqO
  rw [if_pos (by omega), eqv_dec h1 h2 hp]
theorem neO_calm {d e : PyData} {p : Prop} [Decidable p] (h1 : calmD d = true) (h2 : calmD e = true) (hp : d = e ↔ p) (h : d.depth ≤ 60) : neO d e = some (.val (.bool (decide (¬ p)))) := by
  unfold neO
  rw [if_pos (by omega), eqv_dec h1 h2 hp]
  simp
theorem int_inj : Function.Injective PyData.int := fun a b h => by cases h; rfl
@[simp] theorem map_int_inj {ns ms : List Int} : ns.map PyData.int = ms.map PyData.int ↔ ns = ms := by
  constructor
  · exact fun h => (List.map_inj_right (fun a b h => int_inj h)).mp h
  · exact fun h => by rw [h]
@[simp] theorem x_eqI {a b : Int} : eqO (.int a) (.int b) = some (.val (.bool (decide (a = b)))) := eqO_calm rfl rfl (by simp) (by simp)
@[simp] theorem x_neI {a b : Int} : neO (.int a) (.int b) = some (.val (.bool (decide (¬ a = b)))) := neO_calm rfl rfl (by simp) (by simp)
@[simp] theorem x_eqB {a b : Bool} : eqO (.bool a) (.bool b) = some (.val (.bool (a == b))) := by simp [eqO, PyData.eqv]
@[simp] theorem x_neB {a b : Bool} : neO (.bool a) (.bool b) = some (.val (.bool (a != b))) := by simp [neO, PyData.eqv, bne]
@[simp] theorem x_eqS {a b : Str} : eqO (.str a) (.str b) = some (.val (.bool (decide (a = b)))) := eqO_calm rfl rfl (by simp) (by simp)
@[simp] theorem x_neS {a b : Str} : neO (.str a) (.str b) = some (.val (.bool (decide (¬ a = b)))) := neO_calm rfl rfl (by simp) (by simp)
@[simp] theorem x_eqL {a b : List Int} : eqO (.list (a.map .int)) (.list (b.map .int)) = some (.val (.bool (decide (a = b)))) := eqO_calm (by simp) (by simp) (by simp) (by simp)
@[simp] theorem x_neL {a b : List Int} : neO (.list (a.map .int)) (.list (b.map .int)) = some (.val (.bool (decide (¬ a = b)))) := neO_calm (by simp) (by simp) (by simp) (by simp)
theorem eqvAll_nil {ds : List PyData} : PyData.eqvAll ds [] = ds.isEmpty := by cases ds <;> rfl
@[simp] theorem x_eqDn {ds : List PyData} : eqO (.list ds) (.list []) = some (.val (.bool ds.isEmpty)) := by
  unfold eqO
  rw [if_pos (by simp)]
  simp [PyData.eqv, eqvAll_nil]
@[simp] theorem x_neDn {ds : List PyData} : neO (.list ds) (.list []) = some (.val (.bool (!ds.isEmpty))) := by
  unfold neO
  rw [if_pos (by simp)]
  simp [PyData.eqv, eqvAll_nil]
@[simp] theorem x_inL {a : Int} {ns : List Int} : inO (.int a) (.list (ns.map .int)) = some (.val (.bool (decide (a ∈ ns)))) := by
  unfold inO
  simp only [items, dep_ints, dep_int]
  rw [if_pos (by decide)]
  congr 3
  rw [Bool.eq_iff_iff]
  simp [PyData.eqv]
@[simp] theorem x_notInL {a : Int} {ns : List Int} : notInO (.int a) (.list (ns.map .int)) = some (.val (.bool (decide (¬ a ∈ ns)))) := by
  have h := x_inL (a := a) (ns := ns)
  unfold inO at h
  unfold notInO
  simp only [items, dep_ints, dep_int] at h ⊢
  rw [if_pos (by decide)] at h ⊢
  injection h with h
  injection h with h
  injection h with h
  rw [h]
  simp
theorem boolsD_map' {α : Type} {f : α → Bool} {l : List α} : boolsD (l.map fun a => .bool (f a)) = some (l.map f) := by
  induction l with
  | nil => rfl
  | cons a l ih => simp [boolsD, ih]
theorem intsD_map' {α : Type} {f : α → Int} {l : List α} : intsD (l.map fun a => .int (f a)) = some (l.map f) := by
  induction l with
  | nil => rfl
  | cons a l ih => simp [intsD, ih]
/-! ### places -/
theorem atI_nat {α : Type} {xs : List α} {k : Nat} : atI xs (k : Int) = xs[k]? := by
  unfold atI ixN
  rw [if_pos (by omega)]
  by_cases h : k < xs.length
  · rw [if_pos (by omega)]; simp
  · rw [if_neg (by omega)]; simp; omega
theorem atI_pos {α : Type} {xs : List α} {i : Int} (h : 0 ≤ i) : atI xs i = xs[i.toNat]? := by
  obtain ⟨k, rfl⟩ := Int.eq_ofNat_of_zero_le h
  exact atI_nat
@[simp] theorem atI_0 {α : Type} {xs : List α} : atI xs 0 = xs[0]? := atI_nat (k := 0)
@[simp] theorem atI_1 {α : Type} {xs : List α} : atI xs 1 = xs[1]? := atI_nat (k := 1)
@[simp] theorem atI_2 {α : Type} {xs : List α} : atI xs 2 = xs[2]? := atI_nat (k := 2)
theorem atI_mapF {α β : Type} {f : α → β} {xs : List α} {i : Int} : atI (xs.map f) i = (atI xs i).map f := by
  unfold atI
  rw [List.length_map]
  cases ixN xs.length i with
  | none => rfl
  | some j => simp
theorem atI_some {α : Type} {xs : List α} {i : Int} (h0 : 0 ≤ i) (h : i < xs.length) : ∃ x, atI xs i = some x ∧ x ∈ xs := by
  rw [atI_pos h0]
  exact ⟨xs[i.toNat]'(by omega), List.getElem?_eq_getElem _, List.getElem_mem _⟩
theorem idxO_ints {a : Int} {ns : List Int} : idxO (ns.map .int) (.int a) = ns.findIdx? (· == a) := by
  unfold idxO
  rw [if_pos (by simp [flatD])]
  rw [List.findIdx?_map]
  congr 1
theorem idxO_mem {a : Int} {ns : List Int} (h : a ∈ ns) : idxO (ns.map .int) (.int a) = some (ns.idxOf a) := by
  rw [idxO_ints, List.findIdx?_eq_some_of_exists ⟨a, h, by simp⟩]
  rfl
/-! ### cuts -/
def cutI {α : Type} (xs : List α) (lo hi : Option Int) : List α := (xs.drop (HT.sIx xs.length 0 lo)).take (HT.sIx xs.length xs.length hi - HT.sIx xs.length 0 lo)
theorem cutD_map {α : Type} {f : α → PyData} {xs : List α} {lo hi : Option Int} : cutD (xs.map f) lo hi = (cutI xs lo hi).map f := by
  unfold cutD cutI
  simp [List.map_drop, List.map_take]
theorem sIx_nat {n d k : Nat} : HT.sIx n d (some (k : Int)) = min k n := by
  unfold HT.sIx
  simp
  try omega
theorem sIx_none {n d : Nat} : HT.sIx n d none = d := rfl
theorem cut_to {α : Type} {xs : List α} {k : Nat} : cutI xs none (some (k : Int)) = xs.take k := by
  unfold cutI
  rw [sIx_nat, sIx_none]
  simp
theorem cut_from {α : Type} {xs : List α} {k : Nat} : cutI xs (some (k : Int)) none = xs.drop k := by
  unfold cutI
  rw [sIx_nat, sIx_none]
  by_cases h : k ≤ xs.length
  · rw [Nat.min_eq_left h]
    apply List.take_of_length_le
    simp
  · rw [Nat.min_eq_right (by omega)]
    simp
    omega
theorem cut_mid {α : Type} {xs : List α} {k j : Nat} : cutI xs (some (k : Int)) (some (j : Int)) = (xs.take j).drop k := by
  unfold cutI
  rw [sIx_nat, sIx_nat]
  rw [List.drop_take]
  by_cases h : k ≤ xs.length
  · rw [Nat.min_eq_left h]
    by_cases h2 : j ≤ xs.length
    · rw [Nat.min_eq_left h2]
    · rw [Nat.min_eq_right (by omega), List.take_of_length_le (by simp), List.take_of_length_le (by simp; omega)]
  · rw [Nat.min_eq_right (by omega : xs.length ≤ k)]
    simp [List.drop_of_length_le (by omega : xs.length ≤ k)]
/-! ### a set's length -/
theorem nub_len {ns : List Int} (h : ns.Nodup) : (nubI ns).length = ns.length := by
  unfold nubI
  have key : ∀ (i : Nat), i ≤ ns.length → PyProof.Rows.firstMet (fun i => ns.getD i 0) i = ns.take i := by
    intro i
    induction i with
    | zero => intro _; simp [PyProof.Rows.firstMet_zero]
    | succ i ih =>
      intro hi
      rw [PyProof.Rows.firstMet_succ, ih (by omega)]
      have e : ns.getD i 0 = ns[i] := by simp [List.getD_eq_getElem?_getD, List.getElem?_eq_getElem (by omega : i < ns.length)]
      rw [e, List.take_add_one, List.getElem?_eq_getElem (by omega : i < ns.length)]
      unfold PyProof.Rows.step_dedup
      have nin : ((ns.take i).any (· == ns[i])) = false := by
        rw [Bool.eq_false_iff]
        intro hc
        simp only [List.any_eq_true, beq_iff_eq, List.mem_take_iff_getElem] at hc
        obtain ⟨x, ⟨j, hj, rfl⟩, e⟩ := hc
        have := (List.getElem_inj h).mp e
        omega
      first
        | (rw [if_neg (by simp [nin])]; rfl)
        | (simp only [nin]; rfl)
        | simp_all
  rw [key _ (Nat.le_refl _), List.take_length]
/-! ### bounds -/
theorem log_lt {a : Int} {k : Nat} (h : a.natAbs < 2 ^ (k + 1)) : a.natAbs.log2 ≤ k := by
  by_cases h0 : a.natAbs = 0
  · rw [h0]; exact Nat.zero_le _
  · have := (Nat.log2_lt h0).mpr h
    omega
theorem log_small {a : Int} (h0 : -(2 ^ 200) < a) (h : a < 2 ^ 200) : a.natAbs.log2 < 200 := by
  have : a.natAbs < 2 ^ (199 + 1) := by
    have : (a.natAbs : Int) < 2 ^ 200 := by omega
    exact_mod_cast this
  have := log_lt this
  omega
theorem fdiv_ok {a b : Int} (h : 0 < b) (h2 : b < 2 ^ 200) : fdivO (.int a) (.int b) = some (.val (.int (a / b))) := by
  have := log_small (by omega) h2
  rw [x_fdiv, if_pos ⟨h, by unfold lgD; omega⟩]
theorem mod_ok {a b : Int} (h : 0 < b) : modO (.int a) (.int b) = some (.val (.int (a % b))) := by
  rw [x_mod, if_pos h]
theorem mul_ok {a b : Int} (h0 : -(2 ^ 200) < a) (h : a < 2 ^ 200) (h1 : -(2 ^ 200) < b) (h2 : b < 2 ^ 200) : mulO (.int a) (.int b) = some (.val (.int (a * b))) := by
  have := log_small h0 h
  have := log_small h1 h2
  rw [x_mul, if_pos (by unfold lgM; omega)]
@[simp] theorem pow_ok {a b : Int} (h0 : -(2 ^ 200) < a) (h : a < 2 ^ 200) (h1 : 0 ≤ b) (h2 : b ≤ 30000) : powO (.int a) (.int b) = some (.val (.int (a ^ b.toNat))) := by
  have := log_small h0 h
  rw [x_pow, if_pos ⟨h1, h2, by unfold lgP; omega⟩]
@[simp] theorem fdiv_lit {a : Int} {k : Nat} (h : 0 < k) (h2 : k < 2 ^ 200) : fdivO (.int a) (.int (no_index (OfNat.ofNat k))) = some (.val (.int (a / (OfNat.ofNat k)))) := fdiv_ok (by
    show (0 : Int) < (k : Int)
    omega) (by
    show (k : Int) < 2 ^ 200
    omega)
@[simp] theorem mod_lit {a : Int} {k : Nat} (h : 0 < k) : modO (.int a) (.int (no_index (OfNat.ofNat k))) = some (.val (.int (a % (OfNat.ofNat k)))) := mod_ok (by
    show (0 : Int) < (k : Int)
    omega)
/-! ### loops and comprehensions over the images of a list -/
theorem loopF_fold {α β : Type} {b : Bd} {p : DSt → Flow} {f : α → PyData} {l : List α} (st : β → DSt) (step : β → α → β) (x : β) (h : ∀ a ∈ l, ∀ x, ∃ s1, b (f a) (st x) = some s1 ∧ p s1 = .next (st (step x a))) : loopF b p (l.map f) (st x) = .next (st (l.foldl step x)) := by
  induction l generalizing x with
  | nil => rfl
  | cons a l ih =>
    obtain ⟨s1, e1, e2⟩ := h a List.mem_cons_self x
    rw [List.map_cons]
    unfold loopF
    simp only [e1, e2]
    exact ih _ fun a ha x => h a (List.mem_cons_of_mem _ ha) x
/-- an invariant that knows the items done -/
theorem loopF_map {α : Type} {b : Bd} {p : DSt → Flow} {f : α → PyData} {l : List α} {s : DSt} (Inv : Nat → DSt → Prop) (h0 : Inv 0 s) (step : ∀ (i : Nat) (a : α) (s : DSt), l[i]? = some a → Inv i s → ∃ s1 s2, b (f a) s = some s1 ∧ p s1 = .next s2 ∧ Inv (i + 1) s2) : ∃ s', loopF b p (l.map f) s = .next s' ∧ Inv l.length s' := by
  have := loopF_inv (b := b) (p := p) (ds := l.map f) Inv h0 fun i d s hd h => by
    rw [List.getElem?_map] at hd
    cases e : l[i]? with
    | none => rw [e] at hd; cases hd
    | some a =>
      rw [e] at hd
      cases hd
      exact step i a s e h
  rw [List.length_map] at this
  exact this
/-- it ends as said -/
def Nx (x : Flow) (Q : DSt → Prop) : Prop := ∃ s, x = .next s ∧ Q s
@[simp] theorem nx_next {s : DSt} {Q : DSt → Prop} : Nx (.next s) Q ↔ Q s := ⟨fun ⟨_, e, h⟩ => by cases e; exact h, fun h => ⟨s, rfl, h⟩⟩
def bod (b : Bd) (p : DSt → Flow) (d : PyData) (s : DSt) : Flow := match b d s with
  | some s' => p s'
  | none => .stuck
@[simp] theorem x_bod {b : Bd} {p : DSt → Flow} {d : PyData} {s : DSt} : bod b p d s = (match b d s with | some s' => p s' | none => .stuck) := Eq.trans rfl rfl
theorem loopN {α : Type} {b : Bd} {p : DSt → Flow} {f : α → PyData} {l : List α} {s : DSt} (Inv : Nat → DSt → Prop) (h0 : Inv 0 s) (step : ∀ (i : Nat) (a : α) (s : DSt), l[i]? = some a → a ∈ l → Inv i s → Nx (bod b p (f a) s) (Inv (i + 1))) : ∃ s', loopF b p (l.map f) s = .next s' ∧ Inv l.length s' :=
  loopF_map Inv h0 fun i a s hi h => by
    obtain ⟨s2, e, h2⟩ := step i a s hi (List.mem_of_getElem? hi) h
    unfold bod at e
    split at e
    · rename_i s1 e1
      exact ⟨s1, s2, e1, e, h2⟩
    · cases e
theorem take_succ {α : Type} {l : List α} {i : Nat} {a : α} (h : l[i]? = some a) : l.take (i + 1) = l.take i ++ [a] := by
  rw [List.take_add_one, h]
  rfl
theorem take_succ_map {α β : Type} {l : List α} {i : Nat} {a : α} {f : α → β} (h : l[i]? = some a) : (l.map f).take (i + 1) = (l.map f).take i ++ [f a] := take_succ (by rw [List.getElem?_map, h]; rfl)
theorem range_at {n i a : Nat} (h : (List.range n)[i]? = some a) : a = i ∧ i < n := by
  have hi : i < n := by have := (List.getElem?_eq_some_iff.mp h).1; simpa using this
  simp [hi] at h
  exact ⟨h.symm, hi⟩
/-- a loop that goes on where ok, and hands r back where not -/
theorem loopAll {α : Type} {b : Bd} {p : DSt → Flow} {f : α → PyData} {l : List α} {s : DSt} (ok : α → Bool) (r : R) (Inv Post : DSt → Prop) (h0 : Inv s) (step : ∀ a ∈ l, ∀ s, Inv s → (ok a = true → Nx (bod b p (f a) s) Inv) ∧ (ok a = false → ∃ s', bod b p (f a) s = .ret r s' ∧ Post s')) :
    (l.all ok = true → ∃ s', loopF b p (l.map f) s = .next s' ∧ Inv s') ∧ (l.all ok = false → ∃ s', loopF b p (l.map f) s = .ret r s' ∧ Post s') := by
  induction l generalizing s with
  | nil => exact ⟨fun _ => ⟨s, rfl, h0⟩, fun h => by simp at h⟩
  | cons a l ih =>
    obtain ⟨h1, h2⟩ := step a List.mem_cons_self s h0
    have un : ∀ x, bod b p (f a) s = x → loopF b p ((a :: l).map f) s = (match x with | .next s2 => loopF b p (l.map f) s2 | .cnt s2 => loopF b p (l.map f) s2 | .brk s2 => .next s2 | y => y) := fun x e => by
      rw [List.map_cons]
      conv => lhs; unfold loopF
      unfold bod at e
      cases hb : b (f a) s with
      | none => rw [hb] at e; subst e; rfl
      | some s1 =>
        rw [hb] at e
        dsimp only at e ⊢
        rw [e]
        cases x <;> rfl
    cases k : ok a with
    | true =>
      obtain ⟨s2, e, hi⟩ := h1 k
      have := ih hi fun a ha => step a (List.mem_cons_of_mem _ ha)
      rw [un _ e]
      simpa [k] using this
    | false =>
      obtain ⟨s2, e, hp⟩ := h2 k
      rw [un _ e]
      simp only [List.all_cons, k, Bool.false_and]
      exact ⟨fun h => by simp at h, fun _ => ⟨s2, rfl, hp⟩⟩
theorem loopC_gen {α : Type} {b : Bd} {ft : M Bool} {fe : M R} {vs : List Nat} {s : DSt} {f : α → PyData} (sb : α → DSt) (keep : α → Bool) (g : α → PyData) (hn : noOwn vs s.d = true) : ∀ (l : List α) (acc : List PyData),
    (∀ a ∈ l, b (f a) ⟨blank vs s.d, s.w⟩ = some (sb a)) → (∀ a ∈ l, (⟨putBack vs s.d (sb a).d, (sb a).w⟩ : DSt) = s) → (∀ a ∈ l, ft (sb a) = .ok (keep a) (sb a)) → (∀ a ∈ l, keep a = true → (fe (sb a)).bind fEsc = .ok (.val (g a)) (sb a)) →
    loopC b ft fe vs (l.map f) acc s = .ok (acc ++ (l.filter keep).map g) s
  | [], acc, _, _, _, _ => by simp [loopC]
  | d :: ds, acc, h1, h2, h3, h4 => by
    have ih := fun acc => loopC_gen sb keep g hn ds acc (fun d hd => h1 d (List.mem_cons_of_mem _ hd)) (fun d hd => h2 d (List.mem_cons_of_mem _ hd)) (fun d hd => h3 d (List.mem_cons_of_mem _ hd)) (fun d hd => h4 d (List.mem_cons_of_mem _ hd))
    have e1 := h1 d List.mem_cons_self
    have e2 := h2 d List.mem_cons_self
    have e3 := h3 d List.mem_cons_self
    rw [List.map_cons]
    unfold loopC
    rw [if_pos hn, e1]
    dsimp only
    rw [e3]
    cases k : keep d with
    | false =>
      show loopC b ft fe vs (ds.map f) acc _ = _
      rw [e2, ih]
      simp [k]
    | true =>
      have e4 := h4 d List.mem_cons_self k
      show (nerr (bnd fe fEsc (sb d))).bind _ = _
      rw [bnd_app, e4]
      show loopC b ft fe vs (ds.map f) (acc ++ [g d]) _ = _
      rw [e2, ih]
      simp [k]
theorem lc_gen {α : Type} {fi : M (List PyData)} {b : Bd} {ft : M Bool} {fe : M R} {vs : List Nat} {s s1 : DSt} {f : α → PyData} {l : List α} (sb : α → DSt) (keep : α → Bool) (g : α → PyData) (hi : fi s = .ok (l.map f) s1) (hl : l.length ≤ 100000) (hn : noOwn vs s1.d = true)
    (h1 : ∀ a ∈ l, b (f a) ⟨blank vs s1.d, s1.w⟩ = some (sb a)) (h2 : ∀ a ∈ l, (⟨putBack vs s1.d (sb a).d, (sb a).w⟩ : DSt) = s1) (h3 : ∀ a ∈ l, ft (sb a) = .ok (keep a) (sb a)) (h4 : ∀ a ∈ l, keep a = true → (fe (sb a)).bind fEsc = .ok (.val (g a)) (sb a)) :
    fLc fi b ft fe vs s = .ok (.new ((l.filter keep).map g)) s1 := by
  have hl2 : leS (l.map f).length := by rw [List.length_map]; exact size_le hl
  unfold fLc
  simp only [bnd_app, hi, bind_ok, if_pos hl2]
  rw [loopC_gen sb keep g hn l [] h1 h2 h3 h4]
  simp
theorem lc_all {α : Type} {fi : M (List PyData)} {b : Bd} {fe : M R} {vs : List Nat} {s s1 : DSt} {f : α → PyData} {l : List α} (sb : α → DSt) (g : α → PyData) (hi : fi s = .ok (l.map f) s1) (hl : l.length ≤ 100000) (hn : noOwn vs s1.d = true)
    (h1 : ∀ a ∈ l, b (f a) ⟨blank vs s1.d, s1.w⟩ = some (sb a)) (h2 : ∀ a ∈ l, (⟨putBack vs s1.d (sb a).d, (sb a).w⟩ : DSt) = s1) (h4 : ∀ a ∈ l, (fe (sb a)).bind fEsc = .ok (.val (g a)) (sb a)) :
    fLc fi b fYes fe vs s = .ok (.new (l.map g)) s1 := by
  rw [lc_gen (ft := fYes) sb (fun _ => true) g hi hl hn h1 h2 (fun _ _ => rfl) (fun a ha _ => h4 a ha), List.filter_eq_self.mpr (fun _ _ => rfl)]
theorem perm_map_inv {α β : Type} {f : α → β} : ∀ {xs ys : List β}, xs.Perm ys → ∀ {l : List α}, ys = l.map f → ∃ m : List α, xs = m.map f ∧ m.Perm l := by
  intro xs ys h
  induction h with
  | nil => intro l e; exact ⟨l, e, .refl _⟩
  | cons x h ih =>
    intro l e
    cases l with
    | nil => cases e
    | cons a l =>
      cases e
      obtain ⟨m, rfl, hm⟩ := ih rfl
      exact ⟨a :: m, rfl, hm.cons a⟩
  | swap x y l' =>
    intro l e
    match l, e with
    | a :: b :: l, e =>
      cases e
      exact ⟨b :: a :: l, rfl, .swap a b l⟩
  | trans h1 h2 ih1 ih2 =>
    intro l e
    obtain ⟨m, rfl, hm⟩ := ih2 e
    obtain ⟨m2, e2, hm2⟩ := ih1 rfl
    exact ⟨m2, e2, hm2.trans hm⟩
/-! ### loops whose states are known -/
theorem loopF_eq {b : Bd} {p : DSt → Flow} {ds : List PyData} (st : Nat → DSt) (step : ∀ (i : Nat) (d : PyData), ds[i]? = some d → ∃ s1, b d (st i) = some s1 ∧ p s1 = .next (st (i + 1))) : loopF b p ds (st 0) = .next (st ds.length) := by
  obtain ⟨s', e, h⟩ := loopF_inv (b := b) (p := p) (ds := ds) (fun i s => s = st i) rfl fun i d s hd h => by
    subst h
    obtain ⟨s1, e1, e2⟩ := step i d hd
    exact ⟨s1, _, e1, e2, rfl⟩
  rw [e, h]
end DL

/-! DL18: more pieces: three at once; sorted(set(..)) -/
noncomputable section
namespace DL
open PySem L2 PyProof.Rows
open Evl (Ex)
section
variable {X : Cx} {cl : String → Addr} {W : WX} {e a b c : Expr} {es : List Expr} {f g : M R} {fs : M (List R)} {pos : Pos} {p q : DSt → Flow}
/-- x, y, z = a, b, c -/
def kPar3 (i j l : Nat) (rs : List R) (s : DSt) : Flow := match rs with
  | [r1, r2, r3] => if i < s.d.length ∧ j < s.d.length ∧ l < s.d.length then .next (putS l (toSl r3) (putS j (toSl r2) (putS i (toSl r1) s))) else .stuck
  | _ => .stuck
@[simp] theorem y_kPar3 (i j l : Nat) (rs : List R) (s : DSt) : kPar3 i j l rs s = (match rs with | [r1, r2, r3] => if i < s.d.length ∧ j < s.d.length ∧ l < s.d.length then .next (putS l (toSl r3) (putS j (toSl r2) (putS i (toSl r1) s))) else .stuck | _ => .stuck) := Eq.trans rfl rfl
def fPar3 (i j l : Nat) (fs : M (List R)) : DSt → Flow := fun s => onRes (fs s) (kPar3 i j l)
@[simp] theorem x_par3 {i j l : Nat} {s : DSt} : fPar3 i j l fs s = onRes (fs s) (kPar3 i j l) := Eq.trans rfl rfl
theorem s_par3 {i j l : Nat} {x y z : Str} {px py pz pt : Pos} {kt k2 pt2} (hc : X.calm = true) (hN : X.N.Nodup) (hi : X.N[i]? = some x) (hj : X.N[j]? = some y) (hl : X.N[l]? = some z) (hij : i ≠ j) (hil : i ≠ l) (hjl : j ≠ l)
    (hx : X.env.scope.names.lookup x = some .local) (hy : X.env.scope.names.lookup y = some .local) (hz : X.env.scope.names.lookup z = some .local) (ha : DAe X cl W [a, b, c] fs)
    (hw : swappedStores [.Tuple [.Name x px, .Name y py, .Name z pz] kt pt] (.Tuple [a, b, c] k2 pt2) X.env = pure (some [x, y, z]))
    (hs : swapsWithSole [.Tuple [.Name x px, .Name y py, .Name z pz] kt pt] (.Tuple [a, b, c] k2 pt2) pos.line X.env = pure false := by rfl) :
    DS X cl W (.Assign [.Tuple [.Name x px, .Name y py, .Name z pz] kt pt] (.Tuple [a, b, c] k2 pt2) pos) (fPar3 i j l fs) := by
  refine ps_imp (ps_par3 hc hN hi hj hl hij hil hjl hx hy hz ha hw hs) fun D σ H ⟨G, s, S, h⟩ => ⟨G, s, S, ?_⟩
  refine out_mono (fout_res h) fun rs G1 s1 H1 st1 S1 k vs hv => ?_
  unfold kPar3 at k
  split at k
  · rename_i r1 r2 r3
    split at k
    · rename_i hl
      cases hv with
      | cons h1 h2 =>
        cases h2 with
        | cons h2 h3 =>
          cases h3 with
          | cons h3 h4 =>
            cases h4
            rename_i v1 v2 v3
            refine ⟨_, _, _, rfl, ?_⟩
            have S2 := put_ok S1 hl.1 (ar_sl (H := H1) h1) (fun ds a z _ => absurd z no_own)
            have st2 : Stp G s σ H G1 (putS i (toSl r1) s1) (σ.set i (some v1)) H1 := put_stp S1 st1 hl.1 (x := toSl r1) (fun ds a z _ => absurd z no_own)
            have hl2 : j < (putS i (toSl r1) s1).d.length := by simpa [putS] using hl.2.1
            have S3 := put_ok S2 hl2 (ar_sl (H := H1) h2) (fun ds a z _ => absurd z no_own)
            have st3 : Stp G s σ H G1 (putS j (toSl r2) (putS i (toSl r1) s1)) ((σ.set i (some v1)).set j (some v2)) H1 := put_stp S2 st2 hl2 (x := toSl r2) (fun ds a z _ => absurd z no_own)
            have hl3 : l < (putS j (toSl r2) (putS i (toSl r1) s1)).d.length := by simpa [putS] using hl.2.2
            exact k G1 _ H1 (put_stp S3 st3 hl3 (fun ds a z _ => absurd z no_own)) (put_ok S3 hl3 (ar_sl h3) (fun ds a z _ => absurd z no_own))
    · exact k.elim
  · exact k.elim
end
/-! ### loops with a state, that may hand back -/
def foldS {α β : Type} (step : β → α → Sum β R) : β → List α → Sum β R
  | x, [] => .inl x
  | x, a :: l => match step x a with
    | .inl y => foldS step y l
    | .inr r => .inr r
theorem loopS {α β : Type} {b : Bd} {p : DSt → Flow} {f : α → PyData} {l : List α} {s : DSt} {x : β} (step : β → α → Sum β R) (Inv : β → DSt → Prop) (Post : R → DSt → Prop) (h0 : Inv x s)
    (h : ∀ a ∈ l, ∀ x s, Inv x s → (∀ y, step x a = .inl y → Nx (bod b p (f a) s) (Inv y)) ∧ (∀ r, step x a = .inr r → ∃ s', bod b p (f a) s = .ret r s' ∧ Post r s')) :
    (∀ y, foldS step x l = .inl y → ∃ s', loopF b p (l.map f) s = .next s' ∧ Inv y s') ∧ (∀ r, foldS step x l = .inr r → ∃ s', loopF b p (l.map f) s = .ret r s' ∧ Post r s') := by
  induction l generalizing s x with
  | nil => exact ⟨fun y e => by cases e; exact ⟨s, rfl, h0⟩, fun r e => by cases e⟩
  | cons a l ih =>
    obtain ⟨h1, h2⟩ := h a List.mem_cons_self x s h0
    have un : ∀ x, bod b p (f a) s = x → loopF b p ((a :: l).map f) s = (match x with | .next s2 => loopF b p (l.map f) s2 | .cnt s2 => loopF b p (l.map f) s2 | .brk s2 => .next s2 | y => y) := fun x e => by
      rw [List.map_cons]
      conv => lhs; unfold loopF
      unfold bod at e
      cases hb : b (f a) s with
      | none => rw [hb] at e; subst e; rfl
      | some s1 =>
        rw [hb] at e
        dsimp only at e ⊢
        rw [e]
        cases x <;> rfl
    cases k : step x a with
    | inl y =>
      obtain ⟨s2, e, hi⟩ := h1 y k
      have := ih (x := y) hi fun a ha => h a (List.mem_cons_of_mem _ ha)
      rw [un _ e]
      have ef : foldS step x (a :: l) = foldS step y l := by
        conv => lhs; unfold foldS
        rw [k]
      rw [ef]
      exact this
    | inr r =>
      obtain ⟨s2, e, hp⟩ := h2 r k
      rw [un _ e]
      have ef : foldS step x (a :: l) = .inr r := by
        conv => lhs; unfold foldS
        rw [k]
      rw [ef]
      exact ⟨fun y e => by (cases e), fun r2 e => by cases e; exact ⟨s2, rfl, hp⟩⟩
/-- .. that knows how many items are done -/
theorem loopSi {α β : Type} {b : Bd} {p : DSt → Flow} {f : α → PyData} {l : List α} {s : DSt} {x : β} (step : β → α → Sum β R) (Inv : Nat → β → DSt → Prop) (Post : R → DSt → Prop) (h0 : Inv 0 x s)
    (h : ∀ i a, l[i]? = some a → a ∈ l → ∀ x s, Inv i x s → (∀ y, step x a = .inl y → Nx (bod b p (f a) s) (Inv (i + 1) y)) ∧ (∀ r, step x a = .inr r → ∃ s', bod b p (f a) s = .ret r s' ∧ Post r s')) :
    (∀ y, foldS step x l = .inl y → ∃ s', loopF b p (l.map f) s = .next s' ∧ Inv l.length y s') ∧ (∀ r, foldS step x l = .inr r → ∃ s', loopF b p (l.map f) s = .ret r s' ∧ Post r s') := by
  induction l generalizing s x Inv with
  | nil => exact ⟨fun y e => by cases e; exact ⟨s, rfl, h0⟩, fun r e => by cases e⟩
  | cons a l ih =>
    obtain ⟨h1, h2⟩ := h 0 a rfl List.mem_cons_self x s h0
    have un : ∀ x, bod b p (f a) s = x → loopF b p ((a :: l).map f) s = (match x with | .next s2 => loopF b p (l.map f) s2 | .cnt s2 => loopF b p (l.map f) s2 | .brk s2 => .next s2 | y => y) := fun x e => by
      rw [List.map_cons]
      conv => lhs; unfold loopF
      unfold bod at e
      cases hb : b (f a) s with
      | none => rw [hb] at e; subst e; rfl
      | some s1 =>
        rw [hb] at e
        dsimp only at e ⊢
        rw [e]
        cases x <;> rfl
    cases k : step x a with
    | inl y =>
      obtain ⟨s2, e, hi⟩ := h1 y k
      have := ih (x := y) (Inv := fun i => Inv (i + 1)) hi fun i a hi ha => h (i + 1) a (by simpa using hi) (List.mem_cons_of_mem _ ha)
      rw [un _ e]
      have ef : foldS step x (a :: l) = foldS step y l := by
        conv => lhs; unfold foldS
        rw [k]
      rw [ef]
      exact this
    | inr r =>
      obtain ⟨s2, e, hp⟩ := h2 r k
      rw [un _ e]
      have ef : foldS step x (a :: l) = .inr r := by
        conv => lhs; unfold foldS
        rw [k]
      rw [ef]
      exact ⟨fun y e => by (cases e), fun r2 e => by cases e; exact ⟨s2, rfl, hp⟩⟩
/-- the first that answers -/
theorem loopFind {α : Type} {b : Bd} {p : DSt → Flow} {f : α → PyData} {l : List α} {s : DSt} (res : α → Option R) (Inv : DSt → Prop) (Post : R → DSt → Prop) (h0 : Inv s)
    (h : ∀ a ∈ l, ∀ s, Inv s → (res a = none → Nx (bod b p (f a) s) Inv) ∧ (∀ r, res a = some r → ∃ s', bod b p (f a) s = .ret r s' ∧ Post r s')) :
    (l.findSome? res = none → ∃ s', loopF b p (l.map f) s = .next s' ∧ Inv s') ∧ (∀ r, l.findSome? res = some r → ∃ s', loopF b p (l.map f) s = .ret r s' ∧ Post r s') := by
  have e : ∀ l : List α, foldS (fun (_ : Unit) a => match res a with | none => .inl () | some r => .inr r) () l = (match l.findSome? res with | none => .inl () | some r => .inr r) := by
    intro l
    induction l with
    | nil => rfl
    | cons a l ih =>
      unfold foldS
      rw [List.findSome?_cons]
      cases res a with
      | none => exact ih
      | some r => rfl
  have q := loopS (b := b) (p := p) (f := f) (l := l) (s := s) (x := ()) (fun (_ : Unit) a => match res a with | none => .inl () | some r => .inr r) (fun _ => Inv) Post h0 fun a ha x s hs => by
    obtain ⟨h1, h2⟩ := h a ha s hs
    refine ⟨fun y ey => ?_, fun r er => ?_⟩
    · cases k : res a with
      | none => exact h1 k
      | some r => rw [k] at ey; cases ey
    · cases k : res a with
      | none => rw [k] at er; cases er
      | some r' => rw [k] at er; cases er; exact h2 r k
  rw [e] at q
  refine ⟨fun k => ?_, fun r k => ?_⟩
  · rw [k] at q
    exact q.1 () rfl
  · rw [k] at q
    exact q.2 r rfl
theorem max_ints {ns : List Int} (h : ns ≠ []) : maxO [.list (ns.map .int)] = some (.val (.int (maxI ns))) := by
  cases ns with
  | nil => exact absurd rfl h
  | cons n ns =>
    show (match intsD ((n :: ns).map .int) with | some (n :: ns) => some (R.val (.int (maxI (n :: ns)))) | _ => none) = _
    rw [intsD_map]
theorem min_ints {ns : List Int} (h : ns ≠ []) : minO [.list (ns.map .int)] = some (.val (.int (minI ns))) := by
  cases ns with
  | nil => exact absurd rfl h
  | cons n ns =>
    show (match intsD ((n :: ns).map .int) with | some (n :: ns) => some (R.val (.int (minI (n :: ns)))) | _ => none) = _
    rw [intsD_map]
end DL

/-! DL19: e[:0:-1]; list(range(..)); sorted(set(..)) of ints -/
noncomputable section
namespace DL
open PySem L2 PyProof.Rows
open Evl (Ex)
/-! ### e[:0:-1] -/
theorem pick_to0 (items : Array Value) : slicePick items none (some 0) (some (-1)) = (items.toList.drop 1).reverse.toArray := by
  unfold slicePick
  have eb : sliceBounds none (some 0) (some (-1)) items.size = ((items.size : Int) - 1, max (-1) (min 0 ((items.size : Int) - 1)), -1) := rfl
  rw [eb]
  show ((sliceRange ((items.size : Int) - 1) (max (-1) (min 0 ((items.size : Int) - 1))) (-1)).filterMap (items[·]?)).toArray = _
  congr 1
  obtain ⟨l⟩ := items
  show (sliceRange ((l.length : Int) - 1) (max (-1) (min 0 ((l.length : Int) - 1))) (-1)).filterMap (fun i => l.toArray[i]?) = (l.drop 1).reverse
  have er : sliceRange ((l.length : Int) - 1) (max (-1) (min 0 ((l.length : Int) - 1))) (-1) = (List.range (l.length - 1)).map fun k => l.length - 1 - k := by
    unfold sliceRange
    rw [if_neg (by decide)]
    by_cases h : 2 ≤ l.length
    · rw [if_pos (by omega)]
      have e2 : ((l.length : Int) - 1 - max (-1) (min 0 ((l.length : Int) - 1)) - -1 - 1) / (- -1) = ((l.length - 1 : Nat) : Int) := by
        rw [show (- -1 : Int) = 1 by decide, Int.ediv_one]
        omega
      rw [e2]
      show (List.range (((l.length - 1 : Nat) : Int)).toNat).map _ = _
      rw [Int.toNat_natCast]
      refine List.map_congr_left fun k hk => ?_
      have := List.mem_range.mp hk
      omega
    · rw [if_neg (by omega)]
      have : l.length - 1 = 0 := by omega
      rw [this] <;> rfl
  rw [er, List.filterMap_map]
  apply List.ext_getElem?
  intro i
  have full : ∀ n, n ≤ l.length - 1 → (List.range n).filterMap ((fun i => l.toArray[i]?) ∘ fun k => l.length - 1 - k) = (List.range n).map fun k => l.getD (l.length - 1 - k) default := by
    intro n hn
    induction n with
    | zero => rfl
    | succ n ih =>
      rw [List.range_succ, List.filterMap_append, List.map_append, ih (by omega)]
      have : l.length - 1 - n < l.length := by omega
      simp [this, List.getD_eq_getElem?_getD]
  rw [full _ (Nat.le_refl _)]
  by_cases hi : i < l.length - 1
  · rw [List.getElem?_map, List.getElem?_range hi, List.getElem?_reverse (by simp; omega), List.getElem?_drop]
    have e3 : 1 + ((l.drop 1).length - 1 - i) = l.length - 1 - i := by simp; omega
    have : l.length - 1 - i < l.length := by omega
    rw [e3]
    simp [List.getD_eq_getElem?_getD, this]
  · rw [List.getElem?_eq_none (by simp; omega), List.getElem?_eq_none (by simp; omega)]
section
variable {X : Cx} {cl : String → Addr} {W : WX} {e a b c : Expr} {es : List Expr} {f g : M R} {fs : M (List R)} {pos : Pos} {p q : DSt → Flow}
def tRevTo (K : PySem.W.Frag) (te : TE) : TE := fun σ H Q => te σ H fun x H1 => ∃ a xs, x = .ref a ∧ SqL K H1 a xs ∧ ∀ p, H1 p = none → Q (.ref p) (upd H1 p (.lst (xs.drop 1).reverse))
theorem pe_revTo {te : TE} {k k0 : Nat} {p0 p1 p2 p3 : Pos} (he : PE X e te) : PE X (.Subscript e (.Slice none (some (.Constant (.int 0) k0 p0)) (some (.UnaryOp .USub (.Constant (.int 1) k p1) p2)) p3) pos) (tRevTo X.K te) := by
  refine ⟨fun pins s σ H Q I h => Subscript_ (thn (he.run pins s σ H _ I h) fun v s1 ⟨x, H1, I1, r1, q1⟩ => ?_)⟩
  obtain ⟨a, xs, rfl, hx, q⟩ := q1
  cases r1
  have p3' : PO X (some (.UnaryOp .USub (.Constant (.int 1) k p1) p2)) (tPart (tUn (rU fun i => .int (-i)) (tC (.int 1)))) := po_some (pe_un un_neg pe_int)
  have p2' : PO X (some (.Constant (.int 0) k0 p0)) (tPart (tC (.int 0))) := po_some pe_int
  refine wpAny_Slice (thn (po_none.run pins s1 σ H1 (fun o H2 => o = none ∧ H2 = H1) I1 ⟨rfl, rfl⟩) fun vl s2 ⟨l, H2, I2, pl, el, e2⟩ => ?_)
  subst el e2
  refine thn (p2'.run pins s2 σ H2 (fun o H3 => o = some 0 ∧ H3 = H2) I2 ⟨0, rfl, rfl, rfl⟩) fun vu s3 ⟨u, H3, I3, pu, eu, e3⟩ => ?_
  subst eu e3
  refine thn (p3'.run pins s3 σ H3 (fun o H4 => o = some (-1) ∧ H4 = H3) I3 ⟨1, rfl, -1, rfl, rfl, rfl⟩) fun vs s4 ⟨o, H4, I4, ps, eo, e4⟩ => ?_
  subst eo e4
  have J : Inv X pins σ H4 { s4 with heap := s4.heap.push { cls := .type "slice", data := .fields #[vl, vu, vs] } } := I4.kept (t' := s4.toks) fun _ _ z => Heap.get?_push_of_some _ z
  obtain ⟨its, r, ht, hz⟩ := J.list hx
  have hlen := r.length
  show wpAny (model X.prog X.w) X.A (subscriptTail e _ (.ref a) (.ref s4.heap.objs.size)) (EP X pins σ Q) X.xe _
  refine tail_any (ops := [.ref a, .ref s4.heap.objs.size]) ht.isList.typeIs PySem.slot_list_getitem.lookup ?_ (by with_unfolding_all rfl)
  refine wpAny_getItem_list_slice ht.isList (Heap.IsSliceOf.new _ vl vu vs) pl pu ps (by decide) ?_ (by rw [List.size_toArray]; omega)
  rw [pick_to0]
  refine ⟨.ref _, _, J.laid (t' := s4.toks) (o := .lst (xs.drop 1).reverse) (fun _ _ z => Heap.get?_push_of_some _ z) (Nat.le_refl _) ?_, rfl, q _ (J.hok.fresh (Nat.le_refl _))⟩
  refine ⟨?_, _, 0, ?_, Heap.get?_push_size _ rfl⟩
  · rw [List.length_reverse, List.length_drop]; omega
  · exact (r.drop 1).reverse
def revToO : PyData → Option R
  | .list ds => some (.new (ds.drop 1).reverse)
  | _ => none
@[simp] theorem x_revTo {ds : List PyData} : revToO (.list ds) = some (.new (ds.drop 1).reverse) := Eq.trans rfl rfl
theorem d_revTo {k k0 : Nat} {p0 p1 p2 p3 : Pos} (ha : DE X cl W e f) : DE X cl W (.Subscript e (.Slice none (some (.Constant (.int 0) k0 p0)) (some (.UnaryOp .USub (.Constant (.int 1) k p1) p2)) p3) pos) (fUn (lift1 revToO) f) := by
  refine pe_imp (pe_revTo ha) fun σ H Q ⟨G, s, S, q⟩ => ?_
  refine ⟨G, s, S, out_mono (out_bind q) fun x G1 s1 H1 st1 S1 q1 v1 r1 => ?_⟩
  unfold lift1 at q1
  split at q1
  · rename_i d e
    have hd := look_q S1 r1 e
    split at q1
    · exact q1.elim
    · rename_i r ns ho
      have an := ans_of S1 st1.dom (fun i z => ns i z) q1
      unfold revToO at ho
      split at ho
      · cases ho
        obtain ⟨p, xs, rfl, hp, hpx⟩ := dq_lst hd
        exact ⟨p, xs, rfl, .of hp, fun l hl => an l _ hl (dps_rev (dps_drop 1 hpx))⟩
      · cases ho
    · exact q1.elim
  · exact q1.elim
/-! ### list(range(..)) -/
theorem rgV_rp {K : PySem.W.Frag} {G : Hp} (a b : Int) : RpAll K G (rgV a b) (rangeD a (b - a).toNat) := by
  unfold rgV rangeD
  generalize (b - a).toNat = n
  have : ∀ l : List Nat, RpAll K G (l.map fun i => V.int (a + (i : Nat))) (l.map fun i => PyData.int (a + (i : Nat))) := by
    intro l
    induction l with
    | nil => exact .nil
    | cons x l ih => exact .cons (.int _) ih
  exact this _
def rgS (a b : Int) : Prop := RgOk a b
instance (a b : Int) : Decidable (rgS a b) := Classical.propDecidable _
@[simp] theorem rgS_of {a b : Int} (h0 : 0 ≤ a) (h1 : b ≤ 16777216) (h2 : a ≤ 16777216) (h3 : 0 ≤ b) : rgS a b := RgOk.of_le h0 h1 h2 h3
def kLRng (a : Int) (r : R) (s : DSt) : Res R := match look r s with
  | some (.int b) => if rgS a b then .ok (.new (rangeD a (b - a).toNat)) s else .stuck
  | _ => .stuck
@[simp] theorem y_kLRng (a : Int) (r : R) (s : DSt) : kLRng a r s = (match look r s with | some (.int b) => if rgS a b then .ok (.new (rangeD a (b - a).toNat)) s else .stuck | _ => .stuck) := Eq.trans rfl rfl
def fLRng1 (f : M R) : M R := bnd f (kLRng 0)
@[simp] theorem x_lRng1 {f : M R} {s : DSt} : fLRng1 f s = (f s).bind (kLRng 0) := Eq.trans rfl rfl
theorem d_lRng1 {p p2 q pos : Pos} (hc : X.calm = true) (hg : Gl X "list") (hm : X.mg "list" = none) (hg2 : Gl X "range") (hm2 : X.mg "range" = none) (ha : DE X cl W a f)
    (na : starEach [a] X.env = (false, eval a X.env) :: starEach [] X.env := by rfl) (na2 : starEach [.Call (.Name "range" p2) [a] [] q] X.env = (false, eval (.Call (.Name "range" p2) [a] [] q) X.env) :: starEach [] X.env := by rfl) :
    DE X cl W (.Call (.Name "list" p) [.Call (.Name "range" p2) [a] [] q] [] pos) (fLRng1 f) := by
  refine pe_imp (pe_listRg hc hg hm (prg_1 hg2 hm2 ha na) na2) fun σ H Q ⟨G, s, S, q⟩ => ?_
  refine ⟨G, s, S, out_mono (out_bind q) fun x G1 s1 H1 st1 S1 k v rr => ?_⟩
  unfold kLRng at k
  split at k
  · rename_i n e1
    split at k
    · rename_i hz
      refine ⟨n, dq_int (look_q S1 rr e1), hz, fun q hq => ?_⟩
      obtain ⟨st2, S2, r2⟩ := new_list (H0 := H) S1 hq (rgV_rp 0 n) st1.dom
      exact k _ _ st2 S2 _ r2
    · exact k.elim
  · exact k.elim
def kLRng2 (g : M R) (r : R) (s : DSt) : Res R := match look r s with
  | some (.int a) => (g s).bind (kLRng a)
  | _ => .stuck
@[simp] theorem y_kLRng2 (g : M R) (r : R) (s : DSt) : kLRng2 g r s = (match look r s with | some (.int a) => (g s).bind (kLRng a) | _ => .stuck) := Eq.trans rfl rfl
def fLRng2 (f g : M R) : M R := bnd f (kLRng2 g)
@[simp] theorem x_lRng2 {f g : M R} {s : DSt} : fLRng2 f g s = (f s).bind (kLRng2 g) := Eq.trans rfl rfl
theorem d_lRng2 {p p2 q pos : Pos} (hc : X.calm = true) (hg : Gl X "list") (hm : X.mg "list" = none) (hg2 : Gl X "range") (hm2 : X.mg "range" = none) (ha : DE X cl W a f) (hb : DE X cl W b g)
    (na : starEach [a, b] X.env = (false, eval a X.env) :: starEach [b] X.env := by rfl) (nb : starEach [b] X.env = (false, eval b X.env) :: starEach [] X.env := by rfl) (hpl : (backTo q (starEach [b] X.env)).any (·.1) = false := by rfl)
    (na2 : starEach [.Call (.Name "range" p2) [a, b] [] q] X.env = (false, eval (.Call (.Name "range" p2) [a, b] [] q) X.env) :: starEach [] X.env := by rfl) :
    DE X cl W (.Call (.Name "list" p) [.Call (.Name "range" p2) [a, b] [] q] [] pos) (fLRng2 f g) := by
  refine pe_imp (pe_listRg hc hg hm (prg_2 hg2 hm2 ha hb na nb hpl) na2) fun σ H Q ⟨G, s, S, q⟩ => ?_
  refine ⟨G, s, S, out_mono (out_bind q) fun x G1 s1 H1 st1 S1 k v rr => ?_⟩
  unfold kLRng2 at k
  split at k
  · rename_i n e1
    refine ⟨G1, s1, S1, out_mono (out_bind k) fun y G2 s2 H2 st2 S2 k2 v2 rr2 => ?_⟩
    unfold kLRng at k2
    split at k2
    · rename_i m e2
      split at k2
      · rename_i hz
        refine ⟨n, m, dq_int (look_q S1 rr e1), dq_int (look_q S2 rr2 e2), hz, fun q hq => ?_⟩
        obtain ⟨st3, S3, r3⟩ := new_list (H0 := H) S2 hq (rgV_rp n m) (st1.trans st2).dom
        exact k2 _ _ st3 S3 _ r3
      · exact k2.elim
    · exact k2.elim
  · exact k.elim
end
end DL

/-! DL20: str of data -/
noncomputable section
namespace DL
open PySem L2 PyProof.Rows
open Evl (Ex)
/-- what can be written out -/
def showOk (d : PyData) : Prop := d.showable = true ∧ d.hasDict = false ∧ d.shown.length ≤ sizeLine ∧ d.depth ≤ 60
instance (d : PyData) : Decidable (showOk d) := Classical.propDecidable _
def lgT (i : Int) : Prop := i.natAbs.log2 < 1920
instance (i : Int) : Decidable (lgT i) := Classical.propDecidable _
def strO (d : PyData) : Option R := match d with
  | .int i => if lgT i then some (.val (.str (Str.ofString (toString i)))) else none
  | .str x => some (.val (.str x))
  | .list ds => if showOk (.list ds) then some (.val (.str (PyData.list ds).shown)) else none
  | .tuple ds => if showOk (.tuple ds) then some (.val (.str (PyData.tuple ds).shown)) else none
  | _ => none
def kStr (r : R) (s : DSt) : Res R := match look r s with
  | some d => (match strO d with
    | some r => .ok r s
    | none => .stuck)
  | none => .stuck
@[simp] theorem y_kStr (r : R) (s : DSt) : kStr r s = (match look r s with | some d => (match strO d with | some r => .ok r s | none => .stuck) | none => .stuck) := Eq.trans rfl rfl
def fStr (f : M R) : M R := bnd f kStr
@[simp] theorem x_str {f : M R} {s : DSt} : fStr f s = (f s).bind kStr := Eq.trans rfl rfl
section
variable {X : Cx} {cl : String → Addr} {W : WX} {e a b c : Expr} {es : List Expr} {f g : M R} {fs : M (List R)} {pos : Pos} {p q : DSt → Flow}
def rStr (K : PySem.W.Frag) : List V → Hp → VK → Prop := fun vs H Q => (∃ i, vs = [.int i] ∧ i.natAbs.log2 < 1920 ∧ Q (.str (Str.ofString (toString i))) H) ∨ (∃ x, vs = [.str x] ∧ Q (.str x) H) ∨
  ∃ a d, vs = [.ref a] ∧ Dp K H (.ref a) d ∧ showOk d ∧ Q (.str d.shown) H
theorem cr_str {k : Nat} (hr : RoomG k X.A) : CallR X (.type "str") (rStr X.K) := by
  intro pins s σ H vs us Q I rv h
  rcases h with ⟨i, rfl, hz, q⟩ | ⟨x, rfl, q⟩ | ⟨a, d, rfl, hd, ⟨h1, h2, h3, h4⟩, q⟩
  · cases rv with
    | cons h t =>
      cases t
      obtain ⟨t, rfl⟩ := h
      exact PySem.P.str_of_int hz ⟨.str _, H, I.tok _, ⟨_, rfl⟩, q⟩
  · cases rv with
    | cons h t =>
      cases t
      obtain ⟨t, rfl⟩ := h
      exact PySem.P.str_of_str ⟨.str _, H, I, ⟨_, rfl⟩, q⟩
  · cases rv with
    | cons h t =>
      cases t
      have h : _ = Value.ref a := h
      subst h
      obtain ⟨as, rd⟩ := Dp.reads I d (.ref a) (.ref a) hd rfl
      exact str_of_reads rd h1 (fun z => by rw [h2] at z; cases z) hr.quiet (by have := hr.units; omega) (fun _ _ z => z) (fun h' u tk hk => ⟨.str _, H, I.kept hk, ⟨_, rfl⟩, q⟩) h3
theorem d_strC {k : Nat} {pn : Pos} (hr : RoomG k X.A) (hg : Gl X "str") (hm : X.mg "str" = none) (ha : DE X cl W a f)
    (na : starEach [a] X.env = (false, eval a X.env) :: starEach [] X.env := by rfl) : DE X cl W (.Call (.Name "str" pn) [a] [] pos) (fStr f) := by
  refine pe_imp (pe_callTy (cr_str hr) hg hm (by decide +kernel) (pa_cons ha pa_nil na) (by decide) (by decide) na rfl) fun σ H Q ⟨G, s, S, q⟩ => ?_
  refine ⟨G, s, S, out_mono (out_bind q) fun x G1 s1 H1 st1 S1 k v rr => ?_⟩
  unfold kStr at k
  split at k
  · rename_i d e1
    have hq := look_q S1 rr e1
    split at k
    · rename_i r' eo
      unfold strO at eo
      split at eo
      · split at eo
        · rename_i hz
          cases eo
          exact .inl ⟨_, by rw [dq_int hq], hz, k G1 H1 Stp.refl S1 _ (.str _)⟩
        · cases eo
      · cases eo
        exact .inr (.inl ⟨_, by rw [dq_str hq], k G1 H1 Stp.refl S1 _ (.str _)⟩)
      · split at eo
        · rename_i hz
          cases eo
          have hp := look_ok S1 rr e1
          have hd := rp_dp _ _ hp
          obtain ⟨p, xs, rfl, _⟩ := dq_lst hq
          exact .inr (.inr ⟨p, _, rfl, hd, hz, k G1 H1 Stp.refl S1 _ (.str _)⟩)
        · cases eo
      · split at eo
        · rename_i hz
          cases eo
          have hp := look_ok S1 rr e1
          have hd := rp_dp _ _ hp
          obtain ⟨p, xs, rfl, _⟩ := dq_tup S1.gh hq
          exact .inr (.inr ⟨p, _, rfl, hd, hz, k G1 H1 Stp.refl S1 _ (.str _)⟩)
        · cases eo
      · cases eo
    · exact k.elim
  · exact k.elim
end
/-! ### how long what is shown is -/
mutual
def wgt : PyData → Nat
  | .list xs | .tuple xs => wgtA xs + 10
  | .str x => 10 * x.length + 100
  | _ => 100
def wgtA : List PyData → Nat
  | [] => 0
  | x :: xs => wgt x + 2 + wgtA xs
end
mutual
def smallD : PyData → Bool
  | .none | .bool _ => true
  | .int i => decide (i.natAbs < 10 ^ 90)
  | .list xs | .tuple xs => smallA xs
  | .str x => x.cps.toList.all fun c => decide (c < 16 ^ 8)
  | _ => false
def smallA : List PyData → Bool
  | [] => true
  | x :: xs => smallD x && smallA xs
end
theorem int_shown {i : Int} (h : i.natAbs < 10 ^ 90) : (Str.ofString (toString i)).length ≤ 91 := by
  rw [ofString_len]
  cases i with
  | ofNat m =>
    have := digits10_le (k := 90) (n := m) (by decide) h
    show (Nat.repr m).length ≤ _
    simp [Nat.repr]
    omega
  | negSucc m =>
    have := digits10_le (k := 90) (n := m + 1) (by decide) h
    show ("-" ++ Nat.repr (m + 1)).length ≤ _
    have h1 : "-".length = 1 := by first | rfl | decide
    simp [Nat.repr, h1]
    omega
theorem listText_le (ts : List Str) : (listText ts).length ≤ piled ts + 4 := by
  unfold listText
  rw [strLen_append]
  have e1 : (("]" : String) : Str).length = 1 := rfl
  have e2 : (("[" : String) : Str).length = 1 := rfl
  rw [e1]
  cases ts with
  | nil => show (("[" : String) : Str).length + 1 ≤ _; rw [e2]; omega
  | cons t ts =>
    show (textFrom (0 + 1) _ ts).length + 1 ≤ _
    rw [textFrom_length_pos _ _ _ (by decide), strLen_append, strLen_append, e2, piled_cons]
    have : (((if 0 > 0 then ", " else "" : String) : Str)).length = 0 := rfl
    omega
theorem tupleText_le (ts : List Str) : (tupleText ts).length ≤ piled ts + 4 := by
  unfold tupleText
  rw [strLen_append, strLen_append]
  have e1 : ((("(" : String) : Str)).length = 1 := rfl
  have e3 : (((if ts.length == 1 then ",)" else ")" : String) : Str)).length ≤ 2 := by split <;> decide
  rw [e1]
  by_cases h : ts = []
  · subst h
    have : (Str.join ", " []).length = 0 := rfl
    omega
  · have := join_length_add ts h
    omega
mutual
theorem shown_le : ∀ d : PyData, smallD d = true → d.shown.length ≤ wgt d ∧ d.showable = true ∧ d.hasDict = false
  | .none, _ => ⟨by show (("None" : String) : Str).length ≤ 100; decide, rfl, rfl⟩
  | .bool b, _ => ⟨by cases b <;> (first | (show (("True" : String) : Str).length ≤ 100; decide) | (show (("False" : String) : Str).length ≤ 100; decide)), rfl, rfl⟩
  | .int i, h => by
    have hi : i.natAbs < 10 ^ 90 := by simpa [smallD] using h
    refine ⟨?_, ?_, rfl⟩
    · have := int_shown hi
      show (Str.ofString (toString i)).length ≤ 100
      omega
    · simp only [PyData.showable, decide_eq_true_eq]
      exact Nat.lt_of_le_of_lt (log_lt (k := 299) (Nat.lt_of_lt_of_le hi (by decide +kernel))) (by decide)
  | .list xs, h => by
    obtain ⟨h1, h2, h3⟩ := shownA_le xs (by simpa [smallD] using h)
    refine ⟨?_, by simpa [PyData.showable] using h2, by simpa [PyData.hasDict] using h3⟩
    have := listText_le (PyData.shownAll xs)
    simp only [PyData.shown, wgt]
    omega
  | .tuple xs, h => by
    obtain ⟨h1, h2, h3⟩ := shownA_le xs (by simpa [smallD] using h)
    refine ⟨?_, by simpa [PyData.showable] using h2, by simpa [PyData.hasDict] using h3⟩
    have := tupleText_le (PyData.shownAll xs)
    simp only [PyData.shown, wgt]
    omega
  | .str x, h => by
    refine ⟨?_, rfl, rfl⟩
    have := PySem.StrLaws.reprText_len x fun c hc => by
      have h : (x.cps.toList.all fun c => decide (c < 16 ^ 8)) = true := h
      exact of_decide_eq_true (List.all_eq_true.mp h c hc)
    show (reprText x).length ≤ 10 * x.length + 100
    omega
  | .dict _, h => by simp [smallD] at h
theorem shownA_le : ∀ xs : List PyData, smallA xs = true → piled (PyData.shownAll xs) ≤ wgtA xs ∧ PyData.showableAll xs = true ∧ PyData.hasDictAll xs = false
  | [], _ => ⟨Nat.le_refl _, rfl, rfl⟩
  | x :: xs, h => by
    simp only [smallA, Bool.and_eq_true] at h
    obtain ⟨a1, a2, a3⟩ := shown_le x h.1
    obtain ⟨b1, b2, b3⟩ := shownA_le xs h.2
    simp only [PyData.shownAll, PyData.showableAll, PyData.hasDictAll, piled_cons, wgtA, a2, a3, b2, b3]
    refine ⟨by omega, rfl, rfl⟩
end
theorem showOk_of {d : PyData} (h : smallD d = true) (hw : wgt d ≤ 100000) (hd : d.depth ≤ 60) : showOk d := by
  obtain ⟨h1, h2, h3⟩ := shown_le d h
  exact ⟨h2, h3, Nat.le_trans (Nat.le_trans h1 hw) (by decide), hd⟩
theorem strO_list {ds : List PyData} (h : smallD (.list ds) = true) (hw : wgt (.list ds) ≤ 100000) (hd : (PyData.list ds).depth ≤ 60) : strO (.list ds) = some (.val (.str (PyData.list ds).shown)) := by
  show (if showOk (.list ds) then some (R.val (.str (PyData.list ds).shown)) else none) = _
  rw [if_pos (showOk_of h hw hd)]
@[simp] theorem wgtA_ints {ns : List Int} : wgtA (ns.map .int) = 102 * ns.length := by
  induction ns with
  | nil => rfl
  | cons a l ih => simp only [List.map_cons, wgtA, wgt, ih, List.length_cons]; omega
theorem smallA_ints {ns : List Int} (h : ∀ x ∈ ns, x.natAbs < 10 ^ 90) : smallA (ns.map .int) = true := by
  induction ns with
  | nil => rfl
  | cons a l ih => simp only [List.map_cons, smallA, smallD, Bool.and_eq_true, decide_eq_true_eq]; exact ⟨h a List.mem_cons_self, ih fun x hx => h x (List.mem_cons_of_mem _ hx)⟩
@[simp] theorem wgt_list {xs : List PyData} : wgt (.list xs) = wgtA xs + 10 := rfl
@[simp] theorem wgt_tuple {xs : List PyData} : wgt (.tuple xs) = wgtA xs + 10 := rfl
@[simp] theorem wgt_int {i : Int} : wgt (.int i) = 100 := rfl
@[simp] theorem wgtA_nil : wgtA [] = 0 := rfl
@[simp] theorem wgtA_cons {x : PyData} {xs : List PyData} : wgtA (x :: xs) = wgt x + 2 + wgtA xs := rfl
@[simp] theorem small_list {xs : List PyData} : smallD (.list xs) = smallA xs := rfl
@[simp] theorem small_tuple {xs : List PyData} : smallD (.tuple xs) = smallA xs := rfl
@[simp] theorem small_nil : smallA [] = true := rfl
@[simp] theorem small_cons {x : PyData} {xs : List PyData} : smallA (x :: xs) = (smallD x && smallA xs) := rfl
end DL

/-! DL21: a call that only looks: own lists that are handed in stay own -/
noncomputable section
namespace DL
open PySem L2 PyProof.Rows
open Evl (Ex)
def atomD : PyData → Bool
  | .none | .bool _ | .int _ | .str _ => true
  | _ => false
def atomR : R → Bool
  | .val d => atomD d
  | .raw _ => false
  | .ob _ => false
  | .new ds => ds.all atomD
  | .slot _ => false
theorem rp_atom {K : PySem.W.Frag} {G G' : Hp} {v : V} {d : PyData} (h : Rp K G v d) (a : atomD d = true) : Rp K G' v d := by
  cases d <;> simp [atomD] at a <;> cases h
  · exact .non
  · exact .bl _
  · exact .int _
  · exact .str _
theorem rps_atom {K : PySem.W.Frag} {G G' : Hp} : ∀ {ds : List PyData} {vs : List V}, RpAll K G vs ds → ds.all atomD = true → RpAll K G' vs ds
  | [], _, h, _ => by cases h; exact .nil
  | d :: ds, _, h, a => by
    simp at a
    cases h with
    | cons h1 h2 => exact .cons (rp_atom h1 a.1) (rps_atom h2 (by simpa using a.2))
/-- how a callee sees it -/
def seen (r : R) (s : DSt) : Option R := match r with
  | .raw v => some (.raw v)
  | .ob o => some (.ob o)
  | r => (look r s).map .val
def seens : List R → DSt → Option (List R)
  | [], _ => some []
  | r :: rs, s => match seen r s, seens rs s with
    | some a, some as => some (a :: as)
    | _, _ => none
def kUserP (F : List R → Pw → FRes) (rs : List R) (s : DSt) : Res R := match seens rs s with
  | some rs' => (match F rs' s.w with
    | .ok r w' => if atomR r = true then .ok r ⟨s.d, w'⟩ else .stuck
    | _ => .stuck)
  | none => .stuck
@[simp] theorem y_kUserP (F : List R → Pw → FRes) (rs : List R) (s : DSt) : kUserP F rs s = (match seens rs s with | some rs' => (match F rs' s.w with | .ok r w' => if atomR r = true then .ok r ⟨s.d, w'⟩ else .stuck | _ => .stuck) | none => .stuck) := Eq.trans rfl rfl
def fUserP (F : List R → Pw → FRes) (fs : M (List R)) : M R := bnd fs (kUserP F)
@[simp] theorem x_userP {F : List R → Pw → FRes} {fs : M (List R)} {s : DSt} : fUserP F fs s = (fs s).bind (kUserP F) := Eq.trans rfl rfl
@[simp] theorem x_seens_nil {s : DSt} : seens [] s = some [] := Eq.trans rfl rfl
@[simp] theorem x_seens_cons {r : R} {rs : List R} {s : DSt} : seens (r :: rs) s = (match seen r s, seens rs s with | some a, some as => some (a :: as) | _, _ => none) := Eq.trans rfl rfl
@[simp] theorem x_seen_raw {v : V} {s : DSt} : seen (.raw v) s = some (.raw v) := Eq.trans rfl rfl
@[simp] theorem x_seen_val {d : PyData} {s : DSt} : seen (.val d) s = some (.val d) := Eq.trans rfl rfl
@[simp] theorem x_seen_new {ds : List PyData} {s : DSt} : seen (.new ds) s = some (.val (.list ds)) := Eq.trans rfl rfl
@[simp] theorem x_seen_slot {i : Nat} {s : DSt} : seen (.slot i) s = (look (.slot i) s).map .val := Eq.trans rfl rfl
@[simp] theorem atomR_new {ds : List PyData} : atomR (.new ds) = ds.all atomD := rfl
@[simp] theorem atomR_val {d : PyData} : atomR (.val d) = atomD d := rfl
@[simp] theorem atomD_int {d : Int} : atomD (.int d) = true := rfl
@[simp] theorem atomD_bool {d : Bool} : atomD (.bool d) = true := rfl
@[simp] theorem atomD_str {d : Str} : atomD (.str d) = true := rfl
@[simp] theorem atomD_none : atomD .none = true := rfl
@[simp] theorem atomD_ints {ns : List Int} : (ns.map PyData.int).all atomD = true := by
  induction ns with
  | nil => rfl
  | cons a l ih => simp [ih]
section
variable {K : PySem.W.Frag} {G H G1 G' H' : Hp} {s : DSt} {σ : L2.St} {w' : Pw}
/-- all that is known or own, without the purse -/
def allG (w : Pw) (H : Hp) : Hp := fun a => @ite _ (POwn w a) (Classical.propDecidable _) none (H a)
theorem allG_out {w : Pw} {a : Addr} (h : ¬ POwn w a) : allG w H a = H a := by unfold allG; rw [if_neg h]
theorem allG_in {w : Pw} {a : Addr} (h : POwn w a) : allG w H a = none := by unfold allG; rw [if_pos h]
theorem G_pown {w : Pw} (p : PwOk G w H) {a : Addr} (h : POwn w a) : G a = none := by
  unfold PwOk at p
  unfold POwn at h
  split at h
  · exact h.elim
  · rcases h with rfl | rfl
    · exact p.2.2.2.1
    · exact p.2.2.2.2
theorem allG_up (S : SA K G s σ H) : Ex G (allG s.w H) := fun a o e => by
  rw [allG_out fun z => by rw [G_pown S.pw z] at e; cases e]
  exact S.gh a o e
theorem allG_ex {w : Pw} : Ex (allG w H) H := fun a o e => by
  by_cases h : POwn w a
  · rw [allG_in h] at e; cases e
  · rwa [allG_out h] at e
theorem allG_pw (S : SA K G s σ H) : PwOk (allG s.w H) s.w H := by
  have q := S.pw
  have n : ∀ a, POwn s.w a → allG s.w H a = none := fun a h => allG_in h
  unfold PwOk at q ⊢
  split
  · trivial
  · rename_i pa ca cells t e
    rw [e] at q n
    exact ⟨q.1, q.2.1, q.2.2.1, by rw [e]; exact n pa (.inl rfl), by rw [e]; exact n ca (.inr rfl)⟩
theorem look_stp (S : SA K G s σ H) (f : FStp (allG s.w H) s.w H G' w' H') (pw : PwOk G' w' H') : Stp G s σ H G ⟨s.d, w'⟩ σ H' ∧ SA K G ⟨s.d, w'⟩ σ H' := by
  have own : ∀ i a, OwnAt s σ i a → H a ≠ none ∧ ¬ POwn s.w a := fun i a z => ⟨by obtain ⟨xs, e⟩ := S.ownH (.inl ⟨i, z⟩); rw [e]; simp, S.pne i a z⟩
  have up : Ex G G' := fun a o e => f.ex a o (allG_up S a o e)
  have gn : ∀ a, G' a = none → G a = none := fun a h => Classical.byContradiction fun z => by
    obtain ⟨o, e⟩ := Option.ne_none_iff_exists'.mp z
    rw [up a o e] at h
    cases h
  refine ⟨⟨Ex.refl G, fun a o h n => ⟨(f.keep a o h fun z => n (.inr z)).1, rfl⟩, fun a z => ?_, f.dom, f.pw⟩, ⟨S.len, fun a o e => f.gh a o (up a o e), fun i sl h => ?_, S.inj, fun i a z => S.ownG i a z, ?_, fun i a z q => ?_⟩⟩
  · rcases z with z | z
    · exact .inl (.inl z)
    · exact (f.own a z).imp .inr id
  · have q := S.slot i sl h
    cases sl with
    | no => trivial
    | val d => exact q
    | raw v => exact q
    | ob o => exact q
    | own es =>
      obtain ⟨a, xs, e, ha, hh⟩ := q
      have e' : σ[i]? = some (some (.ref a)) := by
        cases z : σ[i]? with
        | none => rw [z] at e; cases e
        | some o => rw [z] at e; simp at e; rw [e]
      exact ⟨a, xs, e, (f.keep a _ ha (own i a ⟨⟨es, h⟩, e'⟩).2).1, hh⟩
  · unfold PwOk at pw ⊢
    split
    · trivial
    · rename_i pa ca cells t e
      have e : w' = some (pa, ca, cells, t) := e
      rw [e] at pw
      exact ⟨pw.1, pw.2.1, pw.2.2.1, gn _ pw.2.2.2.1, gn _ pw.2.2.2.2⟩
  · rcases f.own a q with q | q
    · exact (own i a z).2 q
    · exact (own i a z).1 q
theorem seen_ar {H0 : Hp} {v : V} {r r' : R} (S : SA K G s σ H) (h : RRel K H0 G s σ H v r) (e : seen r s = some r') : AR K (allG s.w H) v r' := by
  cases r with
  | raw u => cases e; exact h
  | ob o => cases e; exact ob_mono (allG_up S) h
  | val d =>
    cases e
    exact dp_mono (allG_up S) _ _ h
  | new ds =>
    cases e
    obtain ⟨a, xs, rfl, ha, hd, _, _, hn⟩ := h
    exact Rp.lst (by rw [allG_out fun z => hn (.inr z)]; exact ha) (dps_mono (allG_up S) _ _ hd)
  | slot i =>
    have h' : σ[i]? = some (some v) := h
    simp only [x_seen_slot, look] at e
    split at e
    · rename_i ds q
      cases e
      obtain ⟨a, xs, e1, ha, hd⟩ := S.slot i _ q
      rw [h'] at e1
      cases e1
      exact Rp.lst (by rw [allG_out (S.pne i a ⟨⟨_, q⟩, h'⟩)]; exact ha) (dps_mono (allG_up S) _ _ hd)
    · rename_i d q
      cases e
      obtain ⟨u, e1, hd⟩ := S.slot i _ q
      rw [h'] at e1
      cases e1
      exact dp_mono (allG_up S) _ _ hd
    · cases e
theorem seens_ar {H0 : Hp} (S : SA K G s σ H) : ∀ {rs rs' : List R} {vs : List V}, RRels K H0 G s σ H vs rs → seens rs s = some rs' → Paired (AR K (allG s.w H)) vs rs'
  | [], _, _, .nil, e => by cases e; exact .nil
  | r :: rs, _, _, .cons h t, e => by
    simp only [x_seens_cons] at e
    split at e
    · rename_i a as e1 e2
      cases e
      exact .cons (seen_ar S h e1) (seens_ar S t e2)
    · cases e
end
section
variable {X : Cx} {cl : String → Addr} {W : WX} {e : Expr} {es : List Expr} {fs : M (List R)} {pos : Pos}
theorem userP_reads {K : PySem.W.Frag} {F : List R → Pw → FRes} {σ : L2.St} {H : Hp} {Q : VK} (q : tD K cl W (fUserP F fs) σ H Q) : tCallS (spF K cl F) (WE W) (tA K cl W fs) σ H Q := by
  obtain ⟨G, s, S, q⟩ := q
  refine ⟨G, s, S, out_mono (out_bind q) fun rs G1 s1 H1 st1 S1 k vs hv => ?_⟩
  unfold kUserP at k
  split at k
  · rename_i rs' e1
    refine ⟨allG s1.w H1, rs', s1.w, allG_ex, seens_ar S1 hv e1, allG_pw S1, ?_⟩
    cases z : F rs' s1.w with
    | ok r w' =>
      rw [z] at k
      dsimp only at k
      split at k
      · rename_i ha
        intro v G' H' f pw fr
        obtain ⟨st, S'⟩ := look_stp S1 f pw
        refine k G1 H' st S' v ?_
        cases r with
        | val d => exact rp_atom fr ha
        | raw u => simp [atomR] at ha
        | ob u => simp [atomR] at ha
        | slot i => exact fr.elim
        | new ds =>
          obtain ⟨a, xs, e, ha2, hd, hg, h0, hn⟩ := fr
          refine ⟨a, xs, e, ha2, rps_atom hd ha, ?_, Classical.byContradiction fun z => st1.dom a z h0, fun z => ?_⟩
          · refine Classical.byContradiction fun z => ?_
            obtain ⟨o, eo⟩ := Option.ne_none_iff_exists'.mp z
            rw [S1.gh a o eo] at h0
            cases h0
          · rcases z with ⟨i, z⟩ | z
            · obtain ⟨ys, e2⟩ := S1.ownH (.inl ⟨i, z⟩)
              rw [h0] at e2; cases e2
            · exact hn z
      · exact k.elim
    | err x w' => rw [z] at k; exact k.elim
    | stuck => rw [z] at k; exact k
  · exact k.elim
theorem d_calP {F : List R → Pw → FRes} {k : Nat} {ps : List Str} {x : Str} {p : Pos} (h : Cal X.prog X.w X.K X.mg X.base cl x k ps F) (hr : RoomG k X.A) (hx : ∀ σ, PassesAt (L2.CX X.prog X.w) X σ (WE W σ)) (ha : DA X cl W (e :: es) fs) (hg : Gl X x := by rfl) (hdb : (x == ("__debug__" : Str)) = false := by decide)
    (he : starEach (e :: es) X.env = (false, eval e X.env) :: starEach es X.env := by rfl) (hpl : (backTo pos (starEach es X.env)).any (·.1) = false := by rfl) : DE X cl W (.Call (.Name x p) (e :: es) [] pos) (fUserP F fs) := by
  obtain ⟨f, fd, ok, g, kp, b⟩ := h
  exact pe_imp (pe_callG ok hr hg g kp b hx ha hdb he hpl) fun σ H Q q => userP_reads q
end
theorem range_D (n : Nat) : (List.range n).map (fun (k : Nat) => PyData.int (k : Int)) = rangeD 0 n := by simp [rangeD]
end DL

/-! DL22: comprehensions that draw -/
noncomputable section
namespace DL
open PySem L2
theorem loopC_w {α : Type} {b : Bd} {ft : M Bool} {fe : M R} {vs : List Nat} {d : List Sl} {f : α → PyData} (da : α → List Sl) (hn : noOwn vs d = true) (Inv : Nat → List PyData → Pw → Prop) : ∀ (l : List α) (acc : List PyData) (w : Pw) (i : Nat), Inv i acc w →
    (∀ (j : Nat) (a : α), l[j]? = some a → ∀ acc w, Inv (i + j) acc w → b (f a) ⟨blank vs d, w⟩ = some ⟨da a, w⟩ ∧ putBack vs d (da a) = d ∧ ∃ k w1, ft ⟨da a, w⟩ = .ok k ⟨da a, w1⟩ ∧ (k = false → Inv (i + j + 1) acc w1) ∧ (k = true → ∃ x w2, (fe ⟨da a, w1⟩).bind fEsc = .ok (.val x) ⟨da a, w2⟩ ∧ Inv (i + j + 1) (acc ++ [x]) w2)) →
    ∃ out w', loopC b ft fe vs (l.map f) acc ⟨d, w⟩ = .ok out ⟨d, w'⟩ ∧ Inv (i + l.length) out w'
  | [], acc, w, i, h, _ => ⟨acc, w, by simp [loopC], h⟩
  | a :: l, acc, w, i, h, st => by
    obtain ⟨e1, e2, k, w1, e3, kf, kt⟩ := st 0 a rfl acc w h
    have ih := fun acc w h => loopC_w da hn Inv l acc w (i + 1) h fun j a hj acc w h => by
      have := st (j + 1) a (by simpa using hj) acc w (by rw [show i + (j + 1) = i + 1 + j by omega]; exact h)
      rwa [show i + (j + 1) = i + 1 + j by omega] at this
    rw [show i + (a :: l).length = i + 1 + l.length by simp; omega]
    rw [List.map_cons]
    unfold loopC
    rw [if_pos hn, e1]
    dsimp only
    rw [e3]
    cases k with
    | false =>
      obtain ⟨out, w', e, hi⟩ := ih acc w1 (kf rfl)
      refine ⟨out, w', ?_, hi⟩
      show loopC b ft fe vs (l.map f) acc ⟨putBack vs d (da a), w1⟩ = _
      rw [e2, e]
    | true =>
      obtain ⟨x, w2, e4, h4⟩ := kt rfl
      obtain ⟨out, w', e, hi⟩ := ih _ w2 h4
      refine ⟨out, w', ?_, hi⟩
      show (nerr (bnd fe fEsc ⟨da a, w1⟩)).bind _ = _
      rw [bnd_app, e4]
      show loopC b ft fe vs (l.map f) (acc ++ [x]) ⟨putBack vs d (da a), w2⟩ = _
      rw [e2, e]
/-- a comprehension whose test or element draws -/
theorem lc_w {α : Type} {fi : M (List PyData)} {b : Bd} {ft : M Bool} {fe : M R} {vs : List Nat} {s : DSt} {d : List Sl} {w : Pw} {f : α → PyData} {l : List α} (da : α → List Sl) (Inv : Nat → List PyData → Pw → Prop) (hi : fi s = .ok (l.map f) ⟨d, w⟩) (hl : l.length ≤ 100000) (hn : noOwn vs d = true) (h0 : Inv 0 [] w)
    (st : ∀ (j : Nat) (a : α), l[j]? = some a → ∀ acc w, Inv j acc w → b (f a) ⟨blank vs d, w⟩ = some ⟨da a, w⟩ ∧ putBack vs d (da a) = d ∧ ∃ k w1, ft ⟨da a, w⟩ = .ok k ⟨da a, w1⟩ ∧ (k = false → Inv (j + 1) acc w1) ∧ (k = true → ∃ x w2, (fe ⟨da a, w1⟩).bind fEsc = .ok (.val x) ⟨da a, w2⟩ ∧ Inv (j + 1) (acc ++ [x]) w2)) :
    ∃ out w', fLc fi b ft fe vs s = .ok (.new out) ⟨d, w'⟩ ∧ Inv l.length out w' := by
  obtain ⟨out, w', e, h⟩ := loopC_w da hn Inv l [] w 0 h0 fun j a hj acc w h => by
    rw [Nat.zero_add] at h ⊢
    exact st j a hj acc w h
  rw [Nat.zero_add] at h
  refine ⟨out, w', ?_, h⟩
  have hl2 : leS (l.map f).length := by rw [List.length_map]; exact size_le hl
  unfold fLc
  simp only [bnd_app, hi, bind_ok, if_pos hl2]
  rw [e]
  rfl
theorem loopC_s {α : Type} {b : Bd} {ft : M Bool} {fe : M R} {vs : List Nat} {f : α → PyData} (Inv : Nat → List PyData → DSt → Prop) : ∀ (l : List α) (acc : List PyData) (s : DSt) (i : Nat), Inv i acc s →
    (∀ (j : Nat) (a : α), l[j]? = some a → ∀ acc s, Inv (i + j) acc s → noOwn vs s.d = true ∧ ∃ s1, b (f a) ⟨blank vs s.d, s.w⟩ = some s1 ∧ ∃ k s2, ft s1 = .ok k s2 ∧ (k = false → Inv (i + j + 1) acc ⟨putBack vs s.d s2.d, s2.w⟩) ∧ (k = true → ∃ x s3, (fe s2).bind fEsc = .ok (.val x) s3 ∧ Inv (i + j + 1) (acc ++ [x]) ⟨putBack vs s.d s3.d, s3.w⟩)) →
    ∃ out s', loopC b ft fe vs (l.map f) acc s = .ok out s' ∧ Inv (i + l.length) out s'
  | [], acc, s, i, h, _ => ⟨acc, s, by simp [loopC], h⟩
  | a :: l, acc, s, i, h, st => by
    obtain ⟨hn, s1, e1, k, s2, e3, kf, kt⟩ := st 0 a rfl acc s h
    have ih := fun acc s h => loopC_s Inv l acc s (i + 1) h fun j a hj acc s h => by
      have := st (j + 1) a (by simpa using hj) acc s (by rw [show i + (j + 1) = i + 1 + j by omega]; exact h)
      rwa [show i + (j + 1) = i + 1 + j by omega] at this
    rw [show i + (a :: l).length = i + 1 + l.length by simp; omega]
    rw [List.map_cons]
    unfold loopC
    rw [if_pos hn, e1]
    dsimp only
    rw [e3]
    cases k with
    | false =>
      obtain ⟨out, s', e, hi⟩ := ih acc _ (kf rfl)
      exact ⟨out, s', e, hi⟩
    | true =>
      obtain ⟨x, s3, e4, h4⟩ := kt rfl
      obtain ⟨out, s', e, hi⟩ := ih _ _ h4
      refine ⟨out, s', ?_, hi⟩
      show (nerr (bnd fe fEsc s2)).bind _ = _
      rw [bnd_app, e4]
      exact e
/-- a comprehension whose test or element changes the state -/
theorem lc_s {α : Type} {fi : M (List PyData)} {b : Bd} {ft : M Bool} {fe : M R} {vs : List Nat} {s s0 : DSt} {f : α → PyData} {l : List α} (Inv : Nat → List PyData → DSt → Prop) (hi : fi s = .ok (l.map f) s0) (hl : l.length ≤ 100000) (h0 : Inv 0 [] s0)
    (st : ∀ (j : Nat) (a : α), l[j]? = some a → ∀ acc s, Inv j acc s → noOwn vs s.d = true ∧ ∃ s1, b (f a) ⟨blank vs s.d, s.w⟩ = some s1 ∧ ∃ k s2, ft s1 = .ok k s2 ∧ (k = false → Inv (j + 1) acc ⟨putBack vs s.d s2.d, s2.w⟩) ∧ (k = true → ∃ x s3, (fe s2).bind fEsc = .ok (.val x) s3 ∧ Inv (j + 1) (acc ++ [x]) ⟨putBack vs s.d s3.d, s3.w⟩)) :
    ∃ out s', fLc fi b ft fe vs s = .ok (.new out) s' ∧ Inv l.length out s' := by
  obtain ⟨out, s', e, h⟩ := loopC_s Inv l [] s0 0 h0 fun j a hj acc s h => by
    rw [Nat.zero_add] at h ⊢
    exact st j a hj acc s h
  rw [Nat.zero_add] at h
  refine ⟨out, s', ?_, h⟩
  have hl2 : leS (l.map f).length := by rw [List.length_map]; exact size_le hl
  unfold fLc
  simp only [bnd_app, hi, bind_ok, if_pos hl2]
  rw [e]
  rfl
end DL

/-! DL23: dicts that are known -/
noncomputable section
namespace DL
open PySem L2 PyProof.Rows
open Evl (Ex)
def keyD : PyData → Option Key
  | .int i => some (.inl i)
  | .str x => some (.inr x)
  | _ => none
def valD (kvs : List (Key × PyData)) (k : Key) : Option PyData := (kvs.find? fun kv => decide (kv.1 = k)).map (·.2)
theorem valD_nil {k : Key} : valD [] k = none := rfl
theorem valD_cons {k j : Key} {d : PyData} {kvs : List (Key × PyData)} : valD ((k, d) :: kvs) j = if k = j then some d else valD kvs j := by
  unfold valD
  by_cases e : k = j <;> simp [List.find?_cons, e]
theorem krp_val {K : PySem.W.Frag} {G : Hp} {k : Key} : ∀ {vs : List (Key × V)} {kvs : List (Key × PyData)}, KRp K G vs kvs → match valD kvs k with
    | some d => ∃ v, valV vs k = some v ∧ Rp K G v d
    | none => valV vs k = none
  | _, _, .nil => rfl
  | _, _, .cons (k := j) (v := v) (d := d) h t => by
    rw [valD_cons]
    by_cases e : j = k
    · rw [if_pos e]; exact ⟨v, valV_pos e, h⟩
    · rw [if_neg e, valV_neg e]; exact krp_val t
theorem krp_some {K : PySem.W.Frag} {G : Hp} {k : Key} {vs : List (Key × V)} {kvs : List (Key × PyData)} (h : KRp K G vs kvs) : (valV vs k).isSome = (valD kvs k).isSome := by
  have := krp_val (k := k) h
  cases q : valD kvs k with
  | none => rw [q] at this; rw [this] <;> rfl
  | some d => rw [q] at this; obtain ⟨v, e, _⟩ := this; rw [e] <;> rfl
theorem key_rp {K : PySem.W.Frag} {G H : Hp} {v : V} {d : PyData} {k : Key} (h : Dq K G H v d) (e : keyD d = some k) : v = L2.kV k := by
  cases d with
  | int i => cases e; exact dq_int h
  | str x => cases e; exact dq_str h
  | none => cases e
  | bool _ => cases e
  | list _ => cases e
  | tuple _ => cases e
  | dict _ => cases e
/-- a dict of written texts and ints -/
def fDictC (kvs : List (Str × Int)) : M R := ret (.ob (.dict (kvs.map fun p => (.inr p.1, .int p.2))))
def kDGet (g : M R) (x : R) (s : DSt) : Res R := match x with
  | .ob (.dict kvs) => (g s).bind fun y s2 => match look y s2 with
    | some d => match keyD d with
      | some k => match valD kvs k with
        | some e => .ok (.val e) s2
        | none => .stuck
      | none => .stuck
    | none => .stuck
  | _ => .stuck
/-- d[k] -/
def fDGet (f g : M R) : M R := bnd f (kDGet g)
def kDIn (neg : Bool) (y x : R) (s : DSt) : Res R := match look y s, x with
  | some d, .ob (.dict kvs) => match keyD d with
    | some k => .ok (.val (.bool (if neg then !(valD kvs k).isSome else (valD kvs k).isSome))) s
    | none => .stuck
  | _, _ => .stuck
/-- k in d -/
def fDIn (neg : Bool) (f g : M R) : M R := bnd f fun y => bnd g fun x => kDIn neg y x
section
variable {X : Cx} {cl : String → Addr} {W : WX} {e a b : Expr} {f g : M R} {pos : Pos}
theorem lt1 {n : Nat} (h : n + 64 < cLine) : n + 1 < cLine := Nat.lt_of_le_of_lt (Nat.add_le_add_left (by decide) n) h
theorem disp_pairs {σ : L2.St} : ∀ (kvs : List (Str × Int)) (H : Hp) (Q : List (V × V) → Hp → Prop), Q (kvs.map fun p => (V.str p.1, V.int p.2)) H → tPairs (kvs.map fun p => (tC (V.str p.1), tC (V.int p.2))) σ H Q
  | [], H, Q, h => h
  | p :: r, H, Q, h => by
    show tPairs (r.map _) σ H fun ps H3 => Q ((V.str p.1, V.int p.2) :: ps) H3
    exact disp_pairs r H _ h
theorem krp_const {K : PySem.W.Frag} {G : Hp} : ∀ kvs : List (Str × Int), KRp K G (kvs.map fun p => (.inr p.1, V.int p.2)) (kvs.map fun p => (.inr p.1, PyData.int p.2))
  | [] => .nil
  | p :: r => .cons (.int _) (krp_const r)
theorem d_dictC {keys : List (Option Expr)} {values : List Expr} {kvs : List (Str × Int)} (h : PPs X pos keys values (kvs.map fun p => (tC (V.str p.1), tC (V.int p.2)))) (hm : mergeK [] (kvs.map fun p => (Sum.inr p.1, V.int p.2)) = kvs.map fun p => (Sum.inr p.1, V.int p.2))
    (h15 : kvs.length ≤ 15) (hall : keys.all (·.isSome) = true := by rfl) (hl : keys.length = values.length := by rfl) (h0 : keys ≠ [] := by exact fun z => nomatch z) (h15' : keys.length ≤ 15 := by decide) : DE X cl W (.Dict keys values pos) (fDictC kvs) := by
  refine pe_imp (pe_disp h hall hl h0 h15') fun σ H Q ⟨G, s, S, q⟩ p hp => disp_pairs kvs _ _ ⟨upd_same, kvs.map fun p => (Sum.inr p.1, V.int p.2), by rw [List.map_map]; rfl, by simpa using h15, ?_⟩
  rw [hm, upd_upd]
  obtain ⟨st, sa⟩ := new_known (.dK (kvs.map fun p => (Sum.inr p.1, V.int p.2))) S hp
  exact q _ _ st sa _ ⟨p, _, rfl, upd_same, krp_const kvs⟩
theorem d_dget (hu : X.A.units + 64 < cLine) (ha : DE X cl W a f) (hb : DE X cl W b g) (hs : NoSl b) : DE X cl W (.Subscript a b pos) (fDGet f g) := by
  refine pe_imp (pe_dget (lt1 hu) ha hb hs) fun σ H Q ⟨G, s, S, q⟩ => ?_
  refine ⟨G, s, S, out_mono (out_bind q) fun x G1 s1 H1 st1 S1 k v rr => ?_⟩
  unfold kDGet at k
  split at k
  · rename_i kvs
    refine ⟨G1, s1, S1, out_mono (out_bind k) fun y G2 s2 H2 st2 S2 k2 u ru => ?_⟩
    obtain ⟨l, vs, rfl, hl, hk⟩ := rr
    split at k2
    · rename_i d ed
      split at k2
      · rename_i kk ek
        split at k2
        · rename_i w ew
          have hu2 := key_rp (look_q S2 ru ed) ek
          subst hu2
          have := krp_val (k := kk) hk
          rw [ew] at this
          obtain ⟨z, e1, e2⟩ := this
          refine ⟨l, z, rfl, ?_, k2 G2 H2 Stp.refl S2 z (dp_mono st2.ex _ _ e2)⟩
          rw [← e1]
          exact DGet.k (S2.gh _ _ (st2.ex _ _ hl))
        · exact k2.elim
      · exact k2.elim
    · exact k2.elim
  · exact k.elim
theorem dIn_reads {neg : Bool} {rl : TE → TE → TE} (hr : ∀ ty td σ H Q, ty σ H (fun y H1 => td σ H1 fun x H2 => ∃ a o, x = V.ref a ∧ DGet H2 a y o ∧ Q (.bl (if neg then !o.isSome else o.isSome)) H2) → rl ty td σ H Q) {K : PySem.W.Frag} {σ : L2.St} {H : Hp} {Q : VK} (q : tD K cl W (fDIn neg f g) σ H Q) :
    rl (tD K cl W f) (tD K cl W g) σ H Q := by
  obtain ⟨G, s, S, q⟩ := q
  refine hr _ _ _ _ _ ⟨G, s, S, out_mono (out_bind q) fun y G1 s1 H1 st1 S1 k v rr => ?_⟩
  refine ⟨G1, s1, S1, out_mono (out_bind k) fun x G2 s2 H2 st2 S2 k2 u ru => ?_⟩
  unfold kDIn at k2
  split at k2
  · rename_i d kvs ed
    split at k2
    · rename_i kk ek
      have hu2 := key_rp (look_q S2 (rr.mono st2) ed) ek
      subst hu2
      obtain ⟨l, vs, rfl, hl, hk⟩ := ru
      refine ⟨l, _, rfl, DGet.k (S2.gh _ _ hl), ?_⟩
      rw [krp_some hk]
      exact k2 G2 H2 Stp.refl S2 _ (.bl _)
    · exact k2.elim
  · exact k2.elim
theorem d_dIn (hu : X.A.units + 64 < cLine) (ha : DE X cl W a f) (hb : DE X cl W b g) (hm : behindInMarks .In b = false) : DE X cl W (.Compare a [.In] [b] pos) (fDIn false f g) := pe_imp (pe_cmp (pc_din (lt1 hu) ha hb) hm) fun σ H Q q => dIn_reads (neg := false) (rl := tDIn) (fun _ _ _ _ _ h => h) q
theorem d_dNotIn (hu : X.A.units + 64 < cLine) (ha : DE X cl W a f) (hb : DE X cl W b g) (hm : behindInMarks .NotIn b = false) : DE X cl W (.Compare a [.NotIn] [b] pos) (fDIn true f g) := pe_imp (pe_cmp (pc_dnotin (lt1 hu) ha hb) hm) fun σ H Q q => dIn_reads (neg := true) (rl := tDNotIn) (fun _ _ _ _ _ h => h) q
theorem t_dIn (hu : X.A.units + 64 < cLine) (ha : DE X cl W a f) (hb : DE X cl W b g) (hm : behindInMarks .In b = false) : DT X cl W (.Compare a [.In] [b] pos) (fB (fDIn false f g)) := pt_imp (pt_cmp (pc_din (lt1 hu) ha hb) hm) fun σ H Q q => dIn_reads (neg := false) (rl := tDIn) (fun _ _ _ _ _ h => h) (test_of q)
theorem t_dNotIn (hu : X.A.units + 64 < cLine) (ha : DE X cl W a f) (hb : DE X cl W b g) (hm : behindInMarks .NotIn b = false) : DT X cl W (.Compare a [.NotIn] [b] pos) (fB (fDIn true f g)) := pt_imp (pt_cmp (pc_dnotin (lt1 hu) ha hb) hm) fun σ H Q q => dIn_reads (neg := true) (rl := tDNotIn) (fun _ _ _ _ _ h => h) (test_of q)
end
theorem ss_nev {X : Cx} {cl : String → Addr} {W : WX} {sts : List Stmt} : DSs X cl W sts fnever := ⟨fun _ _ _ _ _ _ ⟨_, _, _, h⟩ => h.elim⟩
/-! ### a < b < c -/
def kChain3 (o' : R → R → M R) (h : M R) (y : R) (z : R) (s : DSt) : Res R := match look z s with
  | some (.bool true) => (h s).bind fun w => o' y w
  | some (.bool false) => .ok (.val (.bool false)) s
  | _ => .stuck
def kChain2 (o o' : R → R → M R) (h : M R) (x : R) (y : R) (s : DSt) : Res R := (o x y s).bind (kChain3 o' h y)
def kChain1 (o o' : R → R → M R) (g h : M R) (x : R) (s : DSt) : Res R := (g s).bind (kChain2 o o' h x)
def fChain (o o' : R → R → M R) (f g h : M R) : M R := bnd f (kChain1 o o' g h)
section
variable {X : Cx} {cl : String → Addr} {W : WX} {e a b c : Expr} {f g h : M R} {pos : Pos}
theorem chain_reads {K : PySem.W.Frag} {r r' : R2} {o o' : R → R → M R} (ho : OpS K r o) (ho' : OpS K r' o') {σ : L2.St} {H : Hp} {Q : VK} (q : tD K cl W (fChain o o' f g h) σ H Q) : tChain r r' (tD K cl W f) (tD K cl W g) (tD K cl W h) σ H Q := by
  obtain ⟨G, s, S, q⟩ := q
  refine ⟨G, s, S, out_mono (out_bind q) fun x G1 s1 H1 st1 S1 k v rr => ⟨G1, s1, S1, ?_⟩⟩
  refine out_mono (out_bind k) fun y G2 s2 H2 st2 S2 k2 u ru => ?_
  refine ho cl W G2 s2 σ H2 H v u x y _ S2 (rr.mono st2) (ru.less st1.dom) (out_mono (out_bind k2) fun z G3 s3 H3 st3 S3 k3 w rw' => ?_)
  unfold kChain3 at k3
  split at k3
  · rename_i e
    obtain rfl := dq_bl (look_q S3 rw' e)
    refine ⟨true, rfl, ?_⟩
    rw [if_pos rfl]
    refine ⟨G3, s3, S3, out_mono (out_bind k3) fun z4 G4 s4 H4 st4 S4 k4 w4 r4 => ?_⟩
    exact ho' cl W G4 s4 σ H4 H u w4 y z4 _ S4 (((ru.mono st3).mono st4).less st1.dom) (r4.less fun a q => st3.dom a (st2.dom a (st1.dom a q))) (out_less (((st1.trans st2).trans st3).trans st4).dom k4)
  · rename_i e
    obtain rfl := dq_bl (look_q S3 rw' e)
    refine ⟨false, rfl, ?_⟩
    rw [if_neg Bool.false_ne_true]
    exact k3 G3 H3 Stp.refl S3 _ (.bl _)
  · exact k3.elim
theorem d_chain {op op' : CmpOp} {r r' : R2} {o o' : R → R → M R} (h1 : OpR X (compareOp op) r) (h2 : OpR X (compareOp op') r') (ho : OpS X.K r o) (ho' : OpS X.K r' o') (ha : DE X cl W a f) (hb : DE X cl W b g) (hc : DE X cl W c h)
    (hm : lastMarks [op, op'] [b, c] = false := by with_unfolding_all rfl) : DE X cl W (.Compare a [op, op'] [b, c] pos) (fChain o o' f g h) := pe_imp (pe_chain h1 h2 ha hb hc hm) fun σ H Q q => chain_reads ho ho' q
theorem t_chain {op op' : CmpOp} {r r' : R2} {o o' : R → R → M R} (h1 : OpR X (compareOp op) r) (h2 : OpR X (compareOp op') r') (ho : OpS X.K r o) (ho' : OpS X.K r' o') (ha : DE X cl W a f) (hb : DE X cl W b g) (hc : DE X cl W c h)
    (hm : lastMarks [op, op'] [b, c] = false := by with_unfolding_all rfl) : DT X cl W (.Compare a [op, op'] [b, c] pos) (fB (fChain o o' f g h)) := pt_imp (pt_chain h1 h2 ha hb hc hm) fun σ H Q q => chain_reads ho ho' (test_of q)
end
section
variable {s : DSt} {f g : M R} {kvs : List (Key × PyData)} {x y : R} {d : PyData} {z : Str} {i : Int}
@[simp] theorem x_dictC {ws : List (Str × Int)} : fDictC ws s = .ok (.ob (.dict (ws.map fun p => (.inr p.1, .int p.2)))) s := Eq.trans rfl rfl
def kDGet2 (kvs : List (Key × PyData)) (y : R) (s2 : DSt) : Res R := match look y s2 with
    | some d => match keyD d with
      | some k => match valD kvs k with
        | some e => .ok (.val e) s2
        | none => .stuck
      | none => .stuck
    | none => .stuck
@[simp] theorem y_kDGet2 {s2 : DSt} : kDGet2 kvs y s2 = (match look y s2 with
    | some d => match keyD d with
      | some k => match valD kvs k with
        | some e => .ok (.val e) s2
        | none => .stuck
      | none => .stuck
    | none => .stuck) := Eq.trans rfl rfl
@[simp] theorem y_kDGet : kDGet g (.ob (.dict kvs)) s = (g s).bind (kDGet2 kvs) := Eq.trans rfl rfl
@[simp] theorem x_dget : fDGet f g s = (f s).bind (kDGet g) := Eq.trans rfl rfl
@[simp] theorem x_chain {o o' : R → R → M R} {h : M R} : fChain o o' f g h s = (f s).bind (kChain1 o o' g h) := Eq.trans rfl rfl
@[simp] theorem y_kChain1 {o o' : R → R → M R} {h : M R} : kChain1 o o' g h x s = (g s).bind (kChain2 o o' h x) := Eq.trans rfl rfl
@[simp] theorem y_kChain2 {o o' : R → R → M R} {h : M R} : kChain2 o o' h x y s = (o x y s).bind (kChain3 o' h y) := Eq.trans rfl rfl
def kChain4 (o' : R → R → M R) (y w : R) (s : DSt) : Res R := o' y w s
@[simp] theorem y_kChain4 {o' : R → R → M R} : kChain4 o' x y s = o' x y s := Eq.trans rfl rfl
@[simp] theorem y_kChain3 {o' : R → R → M R} {h : M R} {z : Bool} : kChain3 o' h y (.val (.bool z)) s = if z = true then (h s).bind (kChain4 o' y) else .ok (.val (.bool false)) s := by cases z <;> rfl
def kDIn1 (neg : Bool) (g : M R) (y : R) (s : DSt) : Res R := (g s).bind (kDIn neg y)
@[simp] theorem y_kDIn1 {neg : Bool} : kDIn1 neg g y s = (g s).bind (kDIn neg y) := Eq.trans rfl rfl
@[simp] theorem y_kDIn {neg : Bool} : kDIn neg y (.ob (.dict kvs)) s = (match look y s with
  | some d => match keyD d with
    | some k => .ok (.val (.bool (if neg then !(valD kvs k).isSome else (valD kvs k).isSome))) s
    | none => .stuck
  | none => .stuck) := by
  unfold kDIn
  cases look y s <;> rfl
@[simp] theorem x_dIn {neg : Bool} : fDIn neg f g s = (f s).bind (kDIn1 neg g) := Eq.trans rfl rfl
@[simp] theorem x_keyI : keyD (.int i) = some (.inl i) := Eq.trans rfl rfl
@[simp] theorem x_keyS : keyD (.str z) = some (.inr z) := Eq.trans rfl rfl
@[simp] theorem x_valD_nil {k : Key} : valD [] k = none := Eq.trans rfl rfl
@[simp] theorem x_valD_cons {k j : Key} : valD ((k, d) :: kvs) j = if k = j then some d else valD kvs j := valD_cons
end
end DL

/-! DL24: errors raised, caught and kept -/
noncomputable section
namespace DL
open PySem L2 PyProof.Rows PySem.Spec
open Evl (Ex)
/-! ### raise -/
def fRaise (n : String) : DSt → Flow := fun s => .err ⟨n, none⟩ s
section
variable {X : Cx} {cl : String → Addr} {W : WX} {pos : Pos}
theorem s_raise {x m : Str} {n : String} {C : Addr} {j : Nat} {p p2 pos' : Pos} (hc : X.calm = true) (tk : Takes X W) (hC : cl n = C) (q : PySem.W.excIn X.K C [.type "ValueError", .type "Exception", .type "BaseException", .type "object"] "ValueError.__new__" = true) (gC : X.mg x = some (.ref C)) (kC : PySem.W.keepIn X.K (.ref C) = true)
    (h1 : PySem.W.subIn X.K (.ref C) (.type "BaseException") = some true) (h2 : PySem.W.typeIn X.K (.ref C) = some (.type "type")) (hg : Gl X x) (hdb : (x == ("__debug__" : Str)) = false := by decide) :
    DS X cl W (.Raise (some (.Call (.Name x p) [.Constant (.str m) j p2] [] pos')) none pos) (fRaise n) :=
  ps_imp (ps_raise hc tk (pmk_own PySem.F.excBase_ValueError q gC kC (raises_own h1 h2) hg hdb)) fun D σ H ⟨G, s, S, h⟩ => h _ _ G σ H Stp.refl S ⟨by rw [hC], rfl⟩
end
/-! ### what is caught is kept: it is a thing of the heap from then on -/
section
variable {X : Cx} {pins : List (Addr × Obj)} {σ : L2.St} {H : Hp} {s sI : Shared} {a : Addr} {cls : Value} {d : Option Addr}
theorem exc_ok {P : Program} {w : World} {h : Heap} {oe : Obj} (e : h.get? a = some oe) (z : Zc cls d oe) (hv : ∃ vs, oe.data = .fields vs) : ObjOk P w H h a (excO a cls d) :=
  ⟨⟨oe, e, z, hv⟩, ⟨oe, e⟩, fun h1 h2 ⟨o, e1, z1, v1⟩ k => ⟨o, k o e1, z1, v1⟩⟩
theorem inv_more {φ : Heap → Prop} (I : Inv X pins σ H s) (n0 : X.s_0.heap.get? a = none) (hn : H a = none) (new : ∀ H', ObjOk X.prog X.w H' s.heap a (.ext φ)) (hp : ∀ p ∈ X.pn ++ pins, p.1 ≠ a) (nL : a ≠ X.env.locals)
    (nC : ∀ x c, X.env.cells.lookup x = some c → c ≠ a) : Inv X pins σ (upd H a (.ext φ)) s := by
  have ne0 : ∀ b o, X.s_0.heap.get? b = some o → b ≠ a := fun b o e z => by rw [z, n0] at e; cases e
  have neH : ∀ b o, H b = some o → b ≠ a := fun b o e z => by rw [z, hn] at e; cases e
  refine ⟨I.ok, I.os, I.bare, ⟨I.base.keep, I.base.slot, fun b o e z x => ?_, I.base.there, fun b xs e => ?_, fun b o u e => ?_, fun b ps e => ?_⟩, I.loc, I.cell, ?_, fun x c e => ?_, fun p hm => ?_, I.hok.laidN (fun _ _ q => q) hn (new _), I.len⟩
  · rw [upd_ne (ne0 b o e)]; exact I.base.free b o e z x
  · have := I.base.tups b xs e
    rw [upd_ne (neH _ _ this)]; exact this
  · have := I.base.frzs b o u e
    rw [upd_ne (neH _ _ this)]; exact this
  · obtain ⟨more, q⟩ := I.base.tbls b ps e
    exact ⟨more, by rw [upd_ne (neH _ _ q)]; exact q⟩
  · rw [upd_ne nL.symm]; exact I.free
  · rw [upd_ne (nC x c e)]; exact I.freeC x c e
  · obtain ⟨h1, h2, h3⟩ := I.pin p hm
    exact ⟨h1, by rw [upd_ne (hp p hm)]; exact h2, h3⟩
end
/-- what a try wishes of an error of its body: the one that the clause names is kept in slot j -/
def wKeep (K : PySem.W.Frag) (c : Value) (i j : Nat) (Wout : WX) (D : Ends) : WX := fun cls d σ H =>
  ∃ b, PySem.W.exmOne K cls c = some b ∧ (b = true → ∀ a, H a = none → i < σ.length ∧ D.nx (((σ.set i (some (.ref a))).set j (some (.ref a))).set i none) (upd H a (excO a cls d))) ∧ (b = false → Wout cls d σ H)
section
variable {X : Cx} {x n : Str} {c : Value} {i j : Nat} {body suite : List Stmt} {b₀ : Stmt} {np pos pos' : Pos} {tb : WX → TS} {Wout : WX}
/-- the exception's object was not there when the function began, nor among what is tracked -/
theorem try_keep (hs : X.stack = X.env :: X.outer) (hf : X.env.frame = some X.env.locals) (hx : X.ex = []) (hN : X.N.Nodup) (hi : X.N[i]? = some n) (hln : X.env.kindOf n = some .local) (hc : Names X x c) (tk : Takes X Wout)
    (hb : ∀ (W : WX) (pn : List (Addr × Obj)) (xe : Value → Shared → Prop), Takes (X.tr pn xe) W → PassesOwn (model X.prog X.w) X.A X.env xe → PSs (X.tr pn xe) body (tb W))
    (hsu : ∀ (a : Addr) (oe : Obj) (pn : List (Addr × Obj)), PSs (X.suite a ((a, oe) :: pn)) (b₀ :: suite) (tAsg (tVar i) (gName j))) :
    PS X (.Try body [.ExceptHandler (some (.Name x np)) (some n) (b₀ :: suite) pos'] [] [] pos) (fun D σ H => tb (wKeep X.K c i j Wout D) D σ H) := by
  refine ⟨fun pins s σ H D I h => ?_⟩
  have ok := I.ok
  have hfr : X.A.frames = some (X.env :: X.outer) := by rw [ok.frames, hs]
  have hloc : Loc X.env.scope n := .inl hln
  refine wpAny_Try_except ?_
  refine wpAny_mono ((hb (wKeep X.K c i j Wout D) (X.pn ++ pins) (fun e s₁ => wpAny (model X.prog X.w) X.A (noteFrame e X.env) (fun _ s₂ => wpAny (model X.prog X.w) X.A (setFlight e none) (fun _ s₃ =>
    wpAny (model X.prog X.w) X.A (handleBy e X.env [.ExceptHandler (some (.Name x np)) (some n) (b₀ :: suite) pos']) (SP X pins D) X.xe s₃) X.xe s₂) X.xe s₁) (fun u s' xx => ?_) PassesOwn.looking).run [] s σ H D (I.toTry _) h) (fun f s1 hsp => ?_) (fun e s1 he => he)
  · obtain ⟨a, B, sI, pins', σ', H', cls, d, rfl, J', nb, up, sky, na, os, ag, b, hb1, hyes, hno⟩ := xx
    have J : Inv X pins σ' H' sI := J'.ofTry ok
    have sky' : Sky B (X.env :: X.outer) a (Zc cls d) X.env.locals s'.heap := by rw [← hs]; exact sky
    show wpAny _ X.A (noteFrame (.ref a) X.env) _ _ _
    refine Sky.land Zc.steady hfr hf sky' fun h3 fl3 up3 => ?_
    have J3 : Inv X pins σ' H' { s' with heap := h3 } := J.landed nb fl3.1 (up.trans up3) os ag
    obtain ⟨oe3, vs3, he3, hz3, hd3⟩ := fl3.there
    have nfr : a ∉ frs (X.env :: X.outer) := fun hm => by
      obtain ⟨_, o', e', hnf⟩ := fl3.2.2.1.mem hm
      rw [he3] at e'; cases e'
      exact hnf _ hd3
    have nL : a ≠ X.env.locals := fun z => nfr (List.mem_filterMap.mpr ⟨X.env, List.mem_cons_self, by rw [hf, z]⟩)
    have nF : a ∉ X.fs := fun hm => by
      obtain ⟨e, he, q⟩ := List.mem_filterMap.mp hm
      exact nfr (List.mem_filterMap.mpr ⟨e, List.mem_cons_of_mem _ he, q⟩)
    -- the exception is no thing of the state without it
    have nI : sI.heap.get? a = none := by
      cases e : sI.heap.get? a with
      | none => rfl
      | some o =>
        have z := nb a o e (by rw [hs]; exact nfr)
        rw [fl3.2.1] at z; cases z
    have n0 : X.s_0.heap.get? a = none := by
      cases e : X.s_0.heap.get? a with
      | none => rfl
      | some o =>
        obtain ⟨o', z⟩ := J.base.there a o e (by rw [hx]; exact fun z => nomatch z)
        rw [nI] at z; cases z
    have npin : ∀ p ∈ X.pn ++ pins, p.1 ≠ a := fun p hp z => by
      have := (J.pin p hp).1
      rw [z, nI] at this; cases this
    have ncell : ∀ y k, X.env.cells.lookup y = some k → k ≠ a := fun y k e z => by
      obtain ⟨v, q⟩ := J.cell y k e
      obtain ⟨o, q, _⟩ := q
      rw [z, nI] at q; cases q
    have S3 := J3.suite he3 hd3 na nL nF
    refine wpAny_handleBy_cons (codeAny_handlers_test ?_) (by intro q; cases q)
    have LT : PySem.W.Looks (model X.prog X.w) h3 (typeOf (.ref a)) cls := fun A Q E s k q => wpAny_typeOf_ref (k _ _ he3) (by rw [hz3.1]; exact q)
    have LM := PySem.W.exm_one (M := model X.prog X.w) (J3.kIn) LT hb1
    have test : ∀ {Q : Value → Shared → Prop} {E : Value → Shared → Prop}, Q c { s' with heap := h3 } → wpAny (model X.prog X.w) (X.A.mark (some (.ref a))) (eval (.Name x np) X.env) Q E { s' with heap := h3 } := fun {Q E} q => by
      obtain ⟨hg, hdbg, hm | ⟨hm, hv, hnn⟩⟩ := hc
      · exact ld_glob (X := X.suite a ((a, oe3) :: (X.pn ++ pins))) S3 hg hm q hdbg
      · exact ld_blt (X := X.suite a ((a, oe3) :: (X.pn ++ pins))) S3 hg hm hv q hnn hdbg
    refine test (LM.here ?_)
    cases b with
    | true =>
      refine codeAny_handlers_suite_as ?_
      refine HandSPX.lands_againZ fl3 fun h4 fl4 up4 => ?_
      have J4 : Inv X pins σ' H' { s' with heap := h4 } := J.landed nb fl4.1 ((up.trans up3).trans up4) os ag
      obtain ⟨oe4, vs4, he4, hz4, hd4⟩ := fl4.there
      have S4 := J4.suite he4 hd4 na nL nF
      obtain ⟨il, hnx⟩ := hyes rfl a na
      refine store_ok (X := X.suite a ((a, oe4) :: (X.pn ++ pins))) (v := .ref a) S4 hN hi hloc rfl (fun s5 S5 => ?_) (.inr hln)
      refine wpAny_mono ((hsu a oe4 (X.pn ++ pins)).run [] s5 _ H' { nx := fun σ6 H6 => σ6 = (σ'.set i (some (.ref a))).set j (some (.ref a)) ∧ H6 = H', rt := fun _ _ => False, bk := fun _ _ => False, ct := fun _ _ => False } S5
        ⟨.ref a, List.getElem?_set_self il, rfl, rfl⟩) (fun f s6 hsp => ?_) (fun _ _ z => False.elim z)
      cases f with
      | next =>
        obtain ⟨σ6, H6, S6, rfl, rfl⟩ := hsp
        have P6 := (S6.pin (a, oe4) (List.mem_append_left _ List.mem_cons_self)).1
        have M6 : Inv X pins _ (upd H6 a (excO a cls d)) s6 := inv_more (S6.unsuite ok) n0 na (fun _ => exc_ok P6 hz4 ⟨_, hd4⟩) npin nL ncell
        exact gone_ok M6 hN hi hln fun s7 J7 => ⟨_, _, J7, hnx⟩
      | brk => obtain ⟨_, _, _, z⟩ := hsp; exact z.elim
      | cont => obtain ⟨_, _, _, z⟩ := hsp; exact z.elim
      | ret u => obtain ⟨_, _, _, _, _, z⟩ := hsp; exact z.elim
    | false =>
      show wpAny _ X.A (handleBy (.ref a) X.env []) _ _ _
      refine wpAny_handleBy_nil ?_
      obtain ⟨k1, k2, k3, oe, vs, T, oT, ts', he, hz, hd, h1, hr⟩ := id fl3
      unfold PySem.passOn
      refine wpAny_bind (wpAny_field he hd h1 ?_)
      rw [if_neg (show ¬ ((Value.ref T == Value.none) = true) from by simp)]
      have fin : wpAny (model X.prog X.w) X.A (setFlight (.ref a) X.env.frame) (fun _ s4 => wpAny (model X.prog X.w) X.A (throw (.ref a) : Sem PySem.Flow) (SP X pins D) X.xe s4) X.xe { s' with heap := h3 } := by
        rw [hf]
        refine HandSPX.setFlight_upZ fl3 fun h4 hh4 up4 => wpAny_throw (tk _ _ ?_)
        exact ⟨a, B, sI, pins, σ', H', cls, d, rfl, J, nb, (up.trans up3).trans up4, .inr (.inr (by rw [hs]; exact hh4)), na, os, ag, hno rfl⟩
      first
        | exact wpAny_bind (wpAny_pure (wpAny_bind fin))
        | exact wpAny_bind fin
  · cases f with
    | next =>
      obtain ⟨σ', H', J', q⟩ := hsp
      exact wpAny_execs_nil ⟨σ', H', J'.ofTry ok, q⟩
    | brk =>
      obtain ⟨σ', H', J', q⟩ := hsp
      exact ⟨σ', H', J'.ofTry ok, q⟩
    | cont =>
      obtain ⟨σ', H', J', q⟩ := hsp
      exact ⟨σ', H', J'.ofTry ok, q⟩
    | ret u =>
      obtain ⟨v, σ', H', J', r, q⟩ := hsp
      exact ⟨v, σ', H', J'.ofTry ok, r, q⟩
end
/-! ### try: .. except FolkError as e: caught = e -/
def isCaught (ns : List String) (x : Exn) : Bool := ns.contains x.name && (match x.arg with | none => true | some _ => false)
def fTry (ns : List String) (i j : Nat) (p : DSt → Flow) : DSt → Flow := fun s => match p s with
  | .err x s' => if isCaught ns x = true ∧ i < s'.d.length ∧ j < s'.d.length ∧ i ≠ j then .next (putS i .no (putS j (.ob (.exc x)) s')) else .stuck
  | fl => fl
section
variable {K : PySem.W.Frag} {G H G0 H0 : Hp} {s s0 : DSt} {σ σ0 : L2.St}
theorem own_no {i j : Nat} {v : Option V} {a : Addr} (hi : i < s.d.length) : OwnAt (putS i .no s) (σ.set i v) j a → j ≠ i ∧ OwnAt s σ j a := by
  rintro ⟨⟨ds, e⟩, h⟩
  by_cases q : j = i
  · subst q
    unfold putS at e
    simp only [List.getElem?_set_self hi] at e
    cases e
  · unfold putS at e
    simp only [List.getElem?_set_ne (Ne.symm q)] at e
    rw [List.getElem?_set_ne (Ne.symm q)] at h
    exact ⟨q, ⟨ds, e⟩, h⟩
theorem no_ok {i : Nat} {v : Option V} (S : SA K G s σ H) (hi : i < s.d.length) : SA K G (putS i .no s) (σ.set i v) H := by
  refine ⟨by simp [putS, S.len], S.gh, fun j sl h => ?_, fun j k a h1 h2 => S.inj j k a (own_no hi h1).2 (own_no hi h2).2, fun j a h => S.ownG j a (own_no hi h).2, S.pw, fun j a h => S.pne j a (own_no hi h).2⟩
  by_cases q : j = i
  · subst q
    simp only [putS, List.getElem?_set_self hi] at h
    cases h
    trivial
  · simp only [putS, List.getElem?_set_ne (Ne.symm q)] at h
    rw [List.getElem?_set_ne (Ne.symm q)]
    exact S.slot j sl h
theorem no_stp {i : Nat} {v : Option V} (st : Stp G0 s0 σ0 H0 G s σ H) (hi : i < s.d.length) : Stp G0 s0 σ0 H0 G (putS i .no s) (σ.set i v) H := by
  refine ⟨st.ex, st.keep, fun a z => ?_, st.dom, st.pw⟩
  rcases z with ⟨j, z⟩ | z
  · exact st.own a (.inl ⟨j, (own_no hi z).2⟩)
  · exact st.own a (.inr z)
end
theorem set_thrice {σ : L2.St} {i j : Nat} {u v : Option V} (h : i ≠ j) : ((σ.set i u).set j v).set i none = (σ.set j v).set i none := by
  apply List.ext_getElem?
  intro k
  by_cases q : k = i
  · subst q
    simp [List.getElem?_set]
  · simp [List.getElem?_set_ne (Ne.symm q)]
    by_cases q2 : k = j
    · subst q2; simp [List.getElem?_set]
    · simp [List.getElem?_set_ne (Ne.symm q2), List.getElem?_set_ne (Ne.symm q)]
section
variable {X : Cx} {cl : String → Addr} {W : WX} {x n : Str} {C : Addr} {i j : Nat} {body suite : List Stmt} {b₀ : Stmt} {np pos pos' : Pos} {p : DSt → Flow}
theorem try_out {K : PySem.W.Frag} {ns : List String} {G H : Hp} {s : DSt} {σ : L2.St} {D : Ends} (hcl : cl = clOf K) (hex : ∀ m ∈ ns, PySem.W.exmOne K (.ref (clOf K m)) (.ref C) = some true) (h : FOut K cl W G s σ H (fTry ns i j p s) D) : FOut K cl (wKeep K (.ref C) i j W D) G s σ H (p s) D := by
  unfold fTry at h
  cases e : p s with
  | next s' => rw [e] at h; exact h
  | brk s' => rw [e] at h; exact h
  | cnt s' => rw [e] at h; exact h
  | ret r s' => rw [e] at h; exact h
  | stuck => rw [e] at h; exact h
  | err z s' =>
    rw [e] at h
    dsimp only at h
    split at h
    · rename_i hh
      obtain ⟨h1, hi, hj, hij⟩ := hh
      obtain ⟨zn, za⟩ := z
      unfold isCaught at h1
      simp only [Bool.and_eq_true, List.contains_iff_mem] at h1
      obtain ⟨hm, ha0⟩ := h1
      have za0 : za = none := by
        cases za with
        | none => rfl
        | some _ => cases ha0
      subst za0
      intro cls d G' σ' H' st S' xr
      obtain ⟨ec, ed⟩ := xr
      have ed : d = none := ed
      subst ec ed hcl
      refine ⟨true, hex zn hm, fun _ a ha => ⟨by rw [← S'.len]; exact hi, ?_⟩, fun q => nomatch q⟩
      rw [set_thrice hij]
      obtain ⟨st2, S2⟩ := new_known (excO a (.ref (clOf K zn)) none) S' ha
      have S3 := put_ok (x := .ob (.exc ⟨zn, none⟩)) (v := .ref a) S2 hj ⟨_, rfl, a, none, rfl, upd_same, rfl⟩ (fun _ _ q => nomatch q)
      have st3 := put_stp (x := .ob (.exc ⟨zn, none⟩)) (v := .ref a) S2 (st.trans st2) hj (fun _ _ q => nomatch q)
      have hi3 : i < (putS j (.ob (.exc ⟨zn, none⟩)) s').d.length := by simpa [putS] using hi
      exact h _ _ _ (no_stp st3 hi3) (no_ok S3 hi3)
    · exact h.elim
theorem s_try {ns : List String} (hcl : cl = clOf X.K) (hex : ∀ m ∈ ns, PySem.W.exmOne X.K (.ref (clOf X.K m)) (.ref C) = some true) (hs : X.stack = X.env :: X.outer) (hf : X.env.frame = some X.env.locals) (hx : X.ex = []) (hN : X.N.Nodup) (hi : X.N[i]? = some n) (hln : X.env.kindOf n = some .local) (hc : Names X x (.ref C)) (tk : Takes X W)
    (hb : ∀ (W : WX) (pn : List (Addr × Obj)) (xe : Value → Shared → Prop), Takes (X.tr pn xe) W → PassesOwn (model X.prog X.w) X.A X.env xe → DSs (X.tr pn xe) cl W body p)
    (hsu : ∀ (a : Addr) (oe : Obj) (pn : List (Addr × Obj)), PSs (X.suite a ((a, oe) :: pn)) (b₀ :: suite) (tAsg (tVar i) (gName j))) :
    DS X cl W (.Try body [.ExceptHandler (some (.Name x np)) (some n) (b₀ :: suite) pos'] [] [] pos) (fTry ns i j p) :=
  ps_imp (try_keep (tb := fun W => tS X.K cl W p) hs hf hx hN hi hln hc tk hb hsu) fun D σ H ⟨G, s, S, h⟩ => ⟨G, s, S, try_out hcl hex h⟩
end
/-! ### isinstance of what was caught -/
/-- isinstance(e, c), e kept -/
def rIsX (K : PySem.W.Frag) : List V → Hp → VK → Prop := fun xs H Q => ∃ (a D : Addr) (c : V) (cv : Value) (b : Bool), xs = [.ref a, c] ∧ H a = some (excO a (.ref D) none) ∧ ExcC K D ∧ ClsV c cv ∧ PySem.W.kitOne K (.ref D) cv = some b ∧ Q (.bl b) H
theorem call_isX {X : Cx} : CallR X (.builtin "isinstance") (rIsX X.K) := by
  intro pins s σ H xs us Q I r h
  obtain ⟨a, D, c, cv, b, rfl, ha, C, hcv, e, q⟩ := h
  obtain ⟨u1, u2, rfl, r1, r2⟩ := vals2 r
  cases (show u1 = Value.ref a from r1)
  have ec := hcv.eq r2
  subst ec
  obtain ⟨⟨oe, h1, z, vs, hv⟩, _⟩ := (show ObjOk X.prog X.w H s.heap a (excO a (.ref D) none) from I.hok a _ ha)
  have J : PySem.W.InstAt s.heap a oe D none := by
    obtain ⟨oc, od, oda, osl⟩ := oe
    obtain ⟨z1, z2⟩ := z
    dsimp only at z1 z2 hv
    subst z1 z2 hv
    exact ⟨h1, rfl, rfl, trivial⟩
  exact PySem.W.kia_one (PySem.W.handS_kitx_exc C.hg C.hk C.hs C.hd C.ha C.hn C.ht C.hm) I.kIn J e (fun z => nomatch z) fun tk => ⟨.bl b, H, I.kept (t' := tk) fun _ _ z => z, rfl, q⟩
/-- what the text says of an error's class -/
structure ExF (K : PySem.W.Frag) (mg : Str → Option Value) (n : String) : Prop where
  g : mg (Str.ofString n) = some (.ref (clOf K n))
  x : PySem.W.excIn K (clOf K n) [.type "ValueError", .type "Exception", .type "BaseException", .type "object"] "ValueError.__new__" = true
  kp : PySem.W.keepIn K (.ref (clOf K n)) = true
  b : PySem.W.subIn K (.ref (clOf K n)) (.type "BaseException") = some true
  ty : PySem.W.typeIn K (.ref (clOf K n)) = some (.type "type")
  c : ExcC K (clOf K n)
  v : PySem.W.subIn K (.ref (clOf K n)) (.type "ValueError") = some true
/-- what is known of a list of classes: each is an instance of itself alone, and of FolkError, of ValueError -/
structure ExFs (K : PySem.W.Frag) (mg : Str → Option Value) (ns : List String) : Prop where
  each : ∀ n ∈ ns, ExF K mg n
  top : ∀ n ∈ ns, PySem.W.exmOne K (.ref (clOf K n)) (.ref (clOf K "FolkError")) = some true
  two : ∀ n ∈ ns, ∀ m ∈ ns, PySem.W.kitOne K (.ref (clOf K n)) (.ref (clOf K m)) = some (n == m)
  gF : mg "FolkError" = some (.ref (clOf K "FolkError"))
/-- isinstance(e, m): e kept or data; m an own class of an error -/
def fIsX (ns : List String) (m : String) (f : M R) : M R := bnd f fun r s => match r with
  | .ob (.exc ⟨n, none⟩) => if n ∈ ns ∧ m ∈ ns then .ok (.val (.bool (n == m))) s else .stuck
  | _ => .stuck
/-- isinstance(e, ValueError) -/
def fIsV (ns : List String) (f : M R) : M R := bnd f fun r s => match r with
  | .ob (.exc ⟨n, none⟩) => if n ∈ ns then .ok (.val (.bool true)) s else .stuck
  | _ => .stuck
section
variable {X : Cx} {cl : String → Addr} {W : WX} {e : Expr} {f : M R} {pos : Pos}
theorem d_isX {ns : List String} {m : String} {x : Str} {p p2 : Pos} (T : ExFs X.K X.mg ns) (hg : Gl X "isinstance") (hm : X.mg "isinstance" = none) (ha : DE X cl W e f) (hx : PE X (.Name x p2) (tC (.ref (clOf X.K m))))
    (he : starEach (e :: [.Name x p2]) X.env = (false, eval e X.env) :: starEach [.Name x p2] X.env := by rfl) (he2 : starEach [.Name x p2] X.env = (false, eval (.Name x p2) X.env) :: starEach [] X.env := by rfl) (hpl : (backTo pos (starEach [.Name x p2] X.env)).any (·.1) = false := by rfl) :
    DE X cl W (.Call (.Name "isinstance" p) [e, .Name x p2] [] pos) (fIsX ns m f) := by
  refine pe_imp (pe_callB call_isX hg hm (by decide +kernel) (pa_cons ha (pa_cons hx pa_nil he2) he) (by decide) (by decide) he hpl) fun σ H Q ⟨G, s, S, q⟩ => ?_
  refine ⟨G, s, S, out_mono (out_bind q) fun r G1 s1 H1 st1 S1 k v rr => ?_⟩
  split at k
  · rename_i n
    split at k
    · rename_i hh
      obtain ⟨a, d, rfl, hga, hd⟩ := rr
      have hd : d = none := hd
      subst hd
      exact ⟨a, _, _, _, _, rfl, S1.gh _ _ hga, (T.each n hh.1).c, .own _, T.two n hh.1 m hh.2, k G1 H1 Stp.refl S1 _ (.bl _)⟩
    · exact k.elim
  · exact k.elim
theorem kit_V {K : PySem.W.Frag} {D : Addr} (h : PySem.W.subIn K (.ref D) (.type "ValueError") = some true) : PySem.W.kitOne K (.ref D) (.type "ValueError") = some true := by
  unfold PySem.W.kitOne
  rw [if_neg (by intro z; have := beq_iff_eq.mp z; cases this)]
  show (if PySem.W.kitMeta "ValueError" = true then PySem.W.subIn K (.ref D) (.type "ValueError") else none) = _
  rw [if_pos (by decide +kernel)]
  exact h
theorem d_isV {ns : List String} {p p2 : Pos} {mg : Str → Option Value} (T : ExFs X.K mg ns) (hg : Gl X "isinstance") (hm : X.mg "isinstance" = none) (ha : DE X cl W e f) (hx : PE X (.Name "ValueError" p2) (tC (.ty "ValueError")))
    (he : starEach (e :: [.Name "ValueError" p2]) X.env = (false, eval e X.env) :: starEach [.Name "ValueError" p2] X.env := by rfl) (he2 : starEach [.Name "ValueError" p2] X.env = (false, eval (.Name "ValueError" p2) X.env) :: starEach [] X.env := by rfl) (hpl : (backTo pos (starEach [.Name "ValueError" p2] X.env)).any (·.1) = false := by rfl) :
    DE X cl W (.Call (.Name "isinstance" p) [e, .Name "ValueError" p2] [] pos) (fIsV ns f) := by
  refine pe_imp (pe_callB call_isX hg hm (by decide +kernel) (pa_cons ha (pa_cons hx pa_nil he2) he) (by decide) (by decide) he hpl) fun σ H Q ⟨G, s, S, q⟩ => ?_
  refine ⟨G, s, S, out_mono (out_bind q) fun r G1 s1 H1 st1 S1 k v rr => ?_⟩
  split at k
  · rename_i n
    split at k
    · rename_i hh
      obtain ⟨a, d, rfl, hga, hd⟩ := rr
      have hd : d = none := hd
      subst hd
      exact ⟨a, _, _, _, _, rfl, S1.gh _ _ hga, (T.each n hh).c, .ty _, kit_V (T.each n hh).v, k G1 H1 Stp.refl S1 _ (.bl _)⟩
    · exact k.elim
  · exact k.elim
end
section
variable {s : DSt} {f : M R} {p : DSt → Flow}
@[simp] theorem x_raise {n : String} : fRaise n s = .err ⟨n, none⟩ s := Eq.trans rfl rfl
def kTry (ns : List String) (i j : Nat) (fl : Flow) : Flow := match fl with
  | .err x s' => if isCaught ns x = true ∧ i < s'.d.length ∧ j < s'.d.length ∧ i ≠ j then .next (putS i .no (putS j (.ob (.exc x)) s')) else .stuck
  | fl => fl
@[simp] theorem x_try {ns : List String} {i j : Nat} : fTry ns i j p s = kTry ns i j (p s) := by
  unfold fTry kTry
  cases p s <;> rfl
@[simp] theorem y_kTry_next {ns : List String} {i j : Nat} : kTry ns i j (.next s) = .next s := Eq.trans rfl rfl
@[simp] theorem y_kTry_ret {ns : List String} {i j : Nat} {r : R} : kTry ns i j (.ret r s) = .ret r s := Eq.trans rfl rfl
@[simp] theorem y_kTry_err {ns : List String} {i j : Nat} {n : String} : kTry ns i j (.err ⟨n, none⟩ s) = if n ∈ ns ∧ i < s.d.length ∧ j < s.d.length ∧ i ≠ j then .next (putS i .no (putS j (.ob (.exc ⟨n, none⟩)) s)) else .stuck := by
  show (if isCaught ns ⟨n, none⟩ = true ∧ _ then _ else _) = _
  have : isCaught ns ⟨n, none⟩ = true ↔ n ∈ ns := by simp [isCaught]
  simp only [this]
def kIsX (ns : List String) (m : String) (r : R) (s : DSt) : Res R := match r with
  | .ob (.exc ⟨n, none⟩) => if n ∈ ns ∧ m ∈ ns then .ok (.val (.bool (n == m))) s else .stuck
  | _ => .stuck
@[simp] theorem y_kIsX {ns : List String} {n m : String} : kIsX ns m (.ob (.exc ⟨n, none⟩)) s = if n ∈ ns ∧ m ∈ ns then .ok (.val (.bool (n == m))) s else .stuck := Eq.trans rfl rfl
@[simp] theorem x_isX {ns : List String} {m : String} : fIsX ns m f s = (f s).bind (kIsX ns m) := Eq.trans rfl rfl
def kIsV (ns : List String) (r : R) (s : DSt) : Res R := match r with
  | .ob (.exc ⟨n, none⟩) => if n ∈ ns then .ok (.val (.bool true)) s else .stuck
  | _ => .stuck
@[simp] theorem y_kIsV {ns : List String} {n : String} : kIsV ns (.ob (.exc ⟨n, none⟩)) s = if n ∈ ns then .ok (.val (.bool true)) s else .stuck := Eq.trans rfl rfl
@[simp] theorem x_isV {ns : List String} : fIsV ns f s = (f s).bind (kIsV ns) := Eq.trans rfl rfl
end
/-! ### the facts of the classes, from the written part -/
section
variable {K : PySem.W.Frag} {h : Heap} {mg : Str → Option Value} {n m : String} {C D : Addr}
theorem ex_mk (X : PySem.W.Frag.In K h) (G : h.Ns mainGlobals mg) (a : PySem.W.nsIn K mainGlobals (Str.ofString n) = some (some (.ref C))) (x : PySem.W.excIn K C [.type "ValueError", .type "Exception", .type "BaseException", .type "object"] "ValueError.__new__" = true) (kp : PySem.W.keepIn K (.ref C) = true)
    (b : PySem.W.subIn K (.ref C) (.type "BaseException") = some true) (ty : PySem.W.typeIn K (.ref C) = some (.type "type")) (v : PySem.W.subIn K (.ref C) (.type "ValueError") = some true) (hd : PySem.W.hasDictIn K C = true)
    (hg : PySem.W.findIn K (.ref C) "__getattribute__" = some (some (.builtin "BaseException.__getattribute__"))) (hk : PySem.W.findIn K (.ref C) "__getattr__" = some none) (hc : PySem.W.findIn K (.ref C) "__class__" = some (some (.builtin "object.__class__")))
    (hm : PySem.W.mroIn K C (.type "object") = some true) (s0 : PySem.W.specialIn K (.builtin "object.__class__") "__get__" = some (some (.builtin "getset_descriptor.__get__"))) (t0 : PySem.W.takesIn K (.builtin "object.__class__") = some true) : ExF K mg n := by
  have g := PySem.W.mg_of X G a
  have e := clOf_of a
  subst e
  exact ⟨g, x, kp, b, ty, ⟨hg, hk, b, hd, hc, s0, t0, hm⟩, v⟩
theorem top_mk (a : PySem.W.nsIn K mainGlobals (Str.ofString n) = some (some (.ref C))) (aF : PySem.W.nsIn K mainGlobals "FolkError" = some (some (.ref D))) (b : PySem.W.subIn K (.ref D) (.type "BaseException") = some true) (hd : PySem.W.hasDictIn K D = true)
    (ty : PySem.W.typeIn K (.ref D) = some (.type "type")) (s : PySem.W.subIn K (.ref C) (.ref D) = some true) : PySem.W.exmOne K (.ref (clOf K n)) (.ref (clOf K "FolkError")) = some true := by
  have eF : clOf K "FolkError" = D := clOf_of aF
  rw [clOf_of a, eF]
  exact PySem.W.exm_ref b hd ty s
theorem two_eq : PySem.W.kitOne K (.ref (clOf K n)) (.ref (clOf K n)) = some (n == n) := by
  unfold PySem.W.kitOne
  rw [if_pos (by simp)]
  simp
theorem two_mk (a : PySem.W.nsIn K mainGlobals (Str.ofString n) = some (some (.ref C))) (a2 : PySem.W.nsIn K mainGlobals (Str.ofString m) = some (some (.ref D))) (s : PySem.W.subIn K (.ref C) (.ref D) = some false) (s2 : PySem.W.subIn K (.ref C) (.ref C) = some true)
    (hd : PySem.W.hasDictIn K D = true) (ty : PySem.W.typeIn K (.ref D) = some (.type "type")) (hne : n ≠ m) : PySem.W.kitOne K (.ref (clOf K n)) (.ref (clOf K m)) = some (n == m) := by
  rw [clOf_of a, clOf_of a2]
  have ne : C ≠ D := fun z => by subst z; rw [s] at s2; cases s2
  unfold PySem.W.kitOne
  rw [if_neg (by intro z; exact ne (Value.ref.inj (beq_iff_eq.mp z)))]
  obtain ⟨cd, hc, _⟩ := PySem.W.any_some hd
  show (if ((PySem.W.clsIn K D).isSome && PySem.W.typeIn K (.ref D) == some (.type "type")) = true then PySem.W.subIn K (.ref C) (.ref D) else none) = _
  rw [if_pos (by rw [hc, ty] <;> rfl), s, beq_eq_false_iff_ne.mpr hne]
theorem mgF_mk (X : PySem.W.Frag.In K h) (G : h.Ns mainGlobals mg) (a : PySem.W.nsIn K mainGlobals "FolkError" = some (some (.ref C))) : mg "FolkError" = some (.ref (clOf K "FolkError")) := by
  have g := PySem.W.mg_of X G a
  have e : clOf K "FolkError" = C := clOf_of a
  subst e
  exact g
end
end DL

/-! DL25: the script, bits, a law without a purse -/
noncomputable section
namespace DL
open PySem L2 PyProof.Rows
open Evl (Ex)
def kScLen (x : R) (s : DSt) : Res R := match x with
  | .ob (.scr ns) => .ok (.val (.int ns.length)) s
  | _ => .stuck
def fScLen (f : M R) : M R := bnd f kScLen
def kScIx (g : M R) (x : R) (s : DSt) : Res R := match x with
  | .ob (.scr ns) => (g s).bind fun y s2 => match look y s2 with
    | some (.int n) => match atI ns n with
      | some z => .ok (.val (.int z)) s2
      | none => .stuck
    | _ => .stuck
  | _ => .stuck
def fScIx (f g : M R) : M R := bnd f (kScIx g)
def andO : PyData → PyData → Option R
  | .int i, .int j => some (.val (.int (Builtin.bitAnd i j)))
  | _, _ => none
theorem opd_and {K : PySem.W.Frag} : OpD K (rI0 fun i j => .int (Builtin.bitAnd i j)) andO := by
  intro G H x y d e r Q ex hx hy ho k
  unfold andO at ho
  split at ho
  · cases ho
    obtain rfl := dq_int hx
    obtain rfl := dq_int hy
    exact ⟨_, _, rfl, rfl, k.1 _ (.int _)⟩
  · cases ho
section
variable {X : Cx} {cl : String → Addr} {W : WX} {a b x e : Expr} {f g : M R} {pos : Pos}
theorem d_and (ha : DE X cl W a f) (hb : DE X cl W b g) : DE X cl W (.BinOp a .BitAnd b pos) (fOp (lift2 andO) f g) := d_op2 (pe_op op_and) (ops_lift opd_and) ha hb
theorem d_scLen {p : Pos} (hg : Gl X "len") (hm : X.mg "len" = none) (hx : DE X cl W x f)
    (he : starEach (x :: []) X.env = (false, eval x X.env) :: starEach [] X.env := by rfl) (hpl : (backTo pos (starEach [] X.env)).any (·.1) = false := by rfl) : DE X cl W (.Call (.Name "len" p) [x] [] pos) (fScLen f) := by
  refine pe_imp (pe_callB call_len_seq hg hm (by decide +kernel) (pa_cons hx pa_nil he) (by decide) (by decide) he hpl) fun σ H Q ⟨G, s, S, h⟩ => ?_
  refine ⟨G, s, S, out_mono (out_bind h) fun r G1 s1 H1 st1 S1 k v rr => ?_⟩
  unfold kScLen at k
  split at k
  · rename_i ns
    obtain ⟨p, rfl, hl⟩ := rr
    refine ⟨p, _, rfl, .inl (Evl.ex_l S1.gh hl), ?_⟩
    have := k G1 H1 Stp.refl S1 _ (.int _)
    rw [List.length_map]
    exact this
  · exact k.elim
theorem d_scIx (ha : DE X cl W a f) (hb : DE X cl W b g) (hs : PlainIx b) : DE X cl W (.Subscript a b pos) (fScIx f g) := by
  refine pe_imp (pe_ix ix_seq ha hb hs) fun σ H Q ⟨G, s, S, q⟩ => ?_
  refine ⟨G, s, S, out_mono (out_bind q) fun r G1 s1 H1 st1 S1 k v rr => ?_⟩
  unfold kScIx at k
  split at k
  · rename_i ns
    obtain ⟨p, rfl, hl⟩ := rr
    refine ⟨G1, s1, S1, out_mono (out_bind k) fun r2 G2 s2 H2 st2 S2 k2 u ru => ?_⟩
    split at k2
    · rename_i n en
      split at k2
      · rename_i z ez
        obtain rfl := dq_int (look_q S2 ru en)
        exact .inl ⟨p, _, n, _, rfl, rfl, Evl.ex_l (st2.ex.trans S2.gh) hl, atI_map ez, k2 G2 H2 Stp.refl S2 _ (.int z)⟩
      · exact k2.elim
    · exact k2.elim
  · exact k.elim
@[simp] theorem x_scLen {s : DSt} : fScLen f s = (f s).bind kScLen := Eq.trans rfl rfl
@[simp] theorem x_kScLen {ns : List Int} {s : DSt} : kScLen (.ob (.scr ns)) s = .ok (.val (.int ns.length)) s := Eq.trans rfl rfl
@[simp] theorem x_scIx {s : DSt} : fScIx f g s = (f s).bind (kScIx g) := Eq.trans rfl rfl
def kScIx2 (ns : List Int) (y : R) (s2 : DSt) : Res R := match look y s2 with
    | some (.int n) => match atI ns n with
      | some z => .ok (.val (.int z)) s2
      | none => .stuck
    | _ => .stuck
@[simp] theorem x_kScIx {ns : List Int} {s : DSt} : kScIx g (.ob (.scr ns)) s = (g s).bind (kScIx2 ns) := Eq.trans rfl rfl
@[simp] theorem x_kScIx2 {ns : List Int} {i : Int} {s : DSt} : kScIx2 ns (.val (.int i)) s = (match atI ns i with | some z => .ok (.val (.int z)) s | none => .stuck) := Eq.trans rfl rfl
@[simp] theorem x_bitAnd {i j : Int} : andO (.int i) (.int j) = some (.val (.int (Builtin.bitAnd i j))) := Eq.trans rfl rfl
end
/-! ### classes that nothing of the law raises -/
structure ExY (K : PySem.W.Frag) (mg : Str → Option Value) (ns : List String) (m : String) : Prop where
  g : mg (Str.ofString m) = some (.ref (clOf K m))
  two : ∀ n ∈ ns, PySem.W.kitOne K (.ref (clOf K n)) (.ref (clOf K m)) = some false
def kIsY (ns : List String) (m : String) (r : R) (s : DSt) : Res R := match r with
  | .ob (.exc ⟨n, none⟩) => if n ∈ ns then .ok (.val (.bool false)) s else .stuck
  | _ => .stuck
def fIsY (ns : List String) (m : String) (f : M R) : M R := bnd f (kIsY ns m)
@[simp] theorem x_isY {ns : List String} {m : String} {f : M R} {s : DSt} : fIsY ns m f s = (f s).bind (kIsY ns m) := Eq.trans rfl rfl
@[simp] theorem y_kIsY {ns : List String} {n m : String} {s : DSt} : kIsY ns m (.ob (.exc ⟨n, none⟩)) s = if n ∈ ns then .ok (.val (.bool false)) s else .stuck := Eq.trans rfl rfl
theorem d_isY {X : Cx} {cl : String → Addr} {W : WX} {e : Expr} {f : M R} {pos : Pos} {ns : List String} {m : String} {x : Str} {p p2 : Pos} (T : ExFs X.K X.mg ns) (Y : ExY X.K X.mg ns m) (hg : Gl X "isinstance") (hm : X.mg "isinstance" = none) (ha : DE X cl W e f) (hx : PE X (.Name x p2) (tC (.ref (clOf X.K m))))
    (he : starEach (e :: [.Name x p2]) X.env = (false, eval e X.env) :: starEach [.Name x p2] X.env := by rfl) (he2 : starEach [.Name x p2] X.env = (false, eval (.Name x p2) X.env) :: starEach [] X.env := by rfl) (hpl : (backTo pos (starEach [.Name x p2] X.env)).any (·.1) = false := by rfl) :
    DE X cl W (.Call (.Name "isinstance" p) [e, .Name x p2] [] pos) (fIsY ns m f) := by
  refine pe_imp (pe_callB call_isX hg hm (by decide +kernel) (pa_cons ha (pa_cons hx pa_nil he2) he) (by decide) (by decide) he hpl) fun σ H Q ⟨G, s, S, q⟩ => ?_
  refine ⟨G, s, S, out_mono (out_bind q) fun r G1 s1 H1 st1 S1 k v rr => ?_⟩
  unfold kIsY at k
  split at k
  · rename_i n
    split at k
    · rename_i hh
      obtain ⟨a, d, rfl, hga, hd⟩ := rr
      have hd : d = none := hd
      subst hd
      exact ⟨a, _, _, _, _, rfl, S1.gh _ _ hga, (T.each n hh).c, .own _, Y.two n hh, k G1 H1 Stp.refl S1 _ (.bl _)⟩
    · exact k.elim
  · exact k.elim
theorem two2_mk {K : PySem.W.Frag} {n m : String} {C D : Addr} (a : PySem.W.nsIn K mainGlobals (Str.ofString n) = some (some (.ref C))) (a2 : PySem.W.nsIn K mainGlobals (Str.ofString m) = some (some (.ref D))) (s : PySem.W.subIn K (.ref C) (.ref D) = some false) (s2 : PySem.W.subIn K (.ref C) (.ref C) = some true)
    (hd : PySem.W.hasDictIn K D = true) (ty : PySem.W.typeIn K (.ref D) = some (.type "type")) : PySem.W.kitOne K (.ref (clOf K n)) (.ref (clOf K m)) = some false := by
  rw [clOf_of a, clOf_of a2]
  have ne : C ≠ D := fun z => by subst z; rw [s] at s2; cases s2
  unfold PySem.W.kitOne
  rw [if_neg (by intro z; exact ne (Value.ref.inj (beq_iff_eq.mp z)))]
  obtain ⟨cd, hc, _⟩ := PySem.W.any_some hd
  show (if ((PySem.W.clsIn K D).isSome && PySem.W.typeIn K (.ref D) == some (.type "type")) = true then PySem.W.subIn K (.ref C) (.ref D) else none) = _
  rw [if_pos (by rw [hc, ty] <;> rfl), s]
theorem gY_mk {K : PySem.W.Frag} {h : Heap} {mg : Str → Option Value} {m : String} {C : Addr} (X : PySem.W.Frag.In K h) (G : h.Ns mainGlobals mg) (a : PySem.W.nsIn K mainGlobals (Str.ofString m) = some (some (.ref C))) : mg (Str.ofString m) = some (.ref (clOf K m)) := by
  have g := PySem.W.mg_of X G a
  rw [clOf_of a]
  exact g
def LawOkS (n : Nat) (p : DSt → Flow) : Prop := ∀ ns : List Int, ns.length ≤ 63 → ∃ s', p ⟨Sl.ob (.scr ns) :: List.replicate (n - 1) Sl.no, none⟩ = .ret (.val (.bool true)) s'
section
variable {P : Program} {w : World} {K : PySem.W.Frag} {mg : Str → Option Value} {base : Heap} {cl : String → Addr}
/-- a law: all on data -/
theorem law_ok2 {st : Stmt} {x : Str} {N : List Str} {k : Nat} {p : DSt → Flow} {arg : Str} {f : Addr} {fd : FuncData} (F : Fun K x x st f fd) (S : FnScope N [arg] (defScope st))
    (hb : ∀ (f : Addr) (cdv : Value) (A : Around) (outer : List Env) (s : Shared) (H : Hp) (E : XK), RoomG k (A.deeper (envOfC x (defScope st) s.heap.objs.size f cdv)) →
      DSs (cxOf (L2.CX P w) P w K mg base N x (defScope st) f cdv A outer s H E) cl (fun cls d _ H => E cls d H) (defBody st) p)
    (hp : LawOkS N.length p) : FnG P w K mg base (L2.CX P w) (k + 1) f fd [arg] (spLaw K) := by
  refine okG F S (fun vs H Q E h => ?_) (fun cdv A outer s H vs Q E hr h => ?_)
  · obtain ⟨a, ns, rfl, _⟩ := h; rfl
  · refine ⟨_, hb f cdv A outer s H E hr, ?_⟩
    obtain ⟨a, ns, rfl, hs, hl, q⟩ := h
    obtain ⟨s', hp1⟩ := hp ns hl
    have hst : L2.start N [V.ref a] = some (.ref a) :: List.replicate (N.length - 1) none := rfl
    have noown : ∀ (σ : L2.St) (j : Nat) (c : Addr), ¬ OwnAt ⟨Sl.ob (.scr ns) :: List.replicate (N.length - 1) Sl.no, none⟩ σ j c := by
      rintro σ j c ⟨⟨ds, e⟩, _⟩
      match j with
      | 0 => cases e
      | j + 1 =>
        simp only [List.getElem?_cons_succ, List.getElem?_replicate] at e
        split at e <;> cases e
    -- the script is known from the start: all of the heap is taken as known
    refine ⟨H, ⟨Sl.ob (.scr ns) :: List.replicate (N.length - 1) Sl.no, none⟩, ⟨?_, Ex.refl H, fun j sl e => ?_, fun j _ c z => (noown _ j c z).elim, fun j c z => (noown _ j c z).elim, trivial, fun j c z => (noown _ j c z).elim⟩, ?_⟩
    · rw [hst]; simp
    · rw [hst]
      match j with
      | 0 =>
        cases e
        exact ⟨.ref a, rfl, a, rfl, hs⟩
      | j + 1 =>
        simp only [List.getElem?_cons_succ, List.getElem?_replicate] at e
        split at e
        · cases e; trivial
        · cases e
    · show FOut K cl _ _ _ _ _ (p _) _
      rw [hp1]
      intro v G' σ' H2 st' S' rr
      cases rr
      exact q H2
end
end DL

/-! DL26: bool(x) -/
noncomputable section
namespace DL
open PySem L2 PyProof.Rows
open Evl (Ex)
def boolO : List PyData → Option R
  | [.int i] => some (.val (.bool (i != 0)))
  | [.bool b] => some (.val (.bool b))
  | _ => none
theorem cd_bool {K : PySem.W.Frag} : CallD K (fun xs H Q => (∃ i, xs = [.int i] ∧ Q (.bl (i != 0)) H) ∨ ∃ k, xs = [.bl k] ∧ Q (.bl k) H) boolO := by
  intro G H vs ds r' Q ex hv ho k
  unfold boolO at ho
  split at ho
  · cases ho
    cases hv with
    | cons h t =>
      cases t
      obtain rfl := dq_int h
      exact .inl ⟨_, rfl, k.1 _ (.bl _)⟩
  · cases ho
    cases hv with
    | cons h t =>
      cases t
      obtain rfl := dq_bl h
      exact .inr ⟨_, rfl, k.1 _ (.bl _)⟩
  · cases ho
@[simp] theorem x_boolI {a : Int} : boolO [.int a] = some (.val (.bool (a != 0))) := Eq.trans rfl rfl
@[simp] theorem x_boolB {b : Bool} : boolO [.bool b] = some (.val (.bool b)) := Eq.trans rfl rfl
end DL

/-! DL27: a comprehension over an own list that stays own -/
noncomputable section
namespace DL
open PySem L2 PyProof.Rows
open Evl (Ex)
def isOwnL (j : Nat) (ds : List PyData) (s : DSt) : Prop := s.d[j]? = some (.own ds)
instance (j : Nat) (ds : List PyData) (s : DSt) : Decidable (isOwnL j ds s) := Classical.propDecidable _
def loopCO (j : Nat) (all : List PyData) (b : Bd) (ft : M Bool) (fe : M R) (vs : List Nat) : List PyData → List PyData → M (List PyData)
  | [], acc, s => if isOwnL j all s then .ok acc s else .stuck
  | d :: ds, acc, s => if isOwnL j all s then if noOwn vs s.d then match b d { s with d := blank vs s.d } with
      | none => .stuck
      | some s1 => (nerr (ft s1)).bind fun t s2 => if t then (nerr (bnd fe fEsc s2)).bind fun r s3 => match r with
            | .val x => loopCO j all b ft fe vs ds (acc ++ [x]) { s3 with d := putBack vs s.d s3.d }
            | _ => .stuck
          else loopCO j all b ft fe vs ds acc { s2 with d := putBack vs s.d s2.d }
    else .stuck else .stuck
def kNewL : List PyData → M R := fun acc s => .ok (.new acc) s
def kLcO (s : DSt) (j : Nat) (b : Bd) (ft : M Bool) (fe : M R) (vs : List Nat) (ds : List PyData) : Res R := (if leS ds.length then loopCO j ds b ft fe vs ds [] s else .stuck).bind kNewL
def fLcO (j : Nat) (b : Bd) (ft : M Bool) (fe : M R) (vs : List Nat) : M R := fun s => if j ∈ vs then .stuck else match s.d[j]? with
  | some (.own ds) => kLcO s j b ft fe vs ds
  | _ => .stuck
section
variable {X : Cx} {cl : String → Addr} {W : WX} {tg iter : Expr} {pos : Pos}
theorem itO {K : PySem.W.Frag} {j : Nat} {a : Addr} {ds : List PyData} {G' H' : Hp} {s' : DSt} {σ' : L2.St} (S : SA K G' s' σ' H') (e : s'.d[j]? = some (.own ds)) (e2 : σ'[j]? = some (some (.ref a))) (i : Nat) :
    (∀ d, ds[i]? = some d → (Itl K a).go i H' ∧ ∀ x H2, (Itl K a).yld i H' x H2 → ∃ G2, Stp G' s' σ' H' G2 s' σ' H2 ∧ SA K G2 s' σ' H2 ∧ Rp K G2 x d) ∧ (ds.length ≤ i → (Itl K a).stop i H') := by
  obtain ⟨b, xs, e3, hH, hd⟩ := S.slot j _ e
  rw [e2] at e3
  cases e3
  refine ⟨fun d e => ?_, fun hl => ⟨xs, .of hH, by rw [dps_len hd]; exact hl⟩⟩
  have hi : i < xs.length := by rw [dps_len hd]; exact (List.getElem?_eq_some_iff.mp e).1
  refine ⟨⟨xs, xs[i], .of hH, by simp [hi]⟩, fun x H2 ⟨e2, y⟩ => ?_⟩
  subst e2
  obtain ⟨d', e', r⟩ := dps_get hd (y xs (.of hH))
  rw [e] at e'
  cases e'
  exact ⟨G', Stp.refl, S, r⟩
theorem lcO_reads {K : PySem.W.Frag} {gg : TG} {bd : Bd} {js vs : List Nat} {ft : M Bool} {fe : M R} {j : Nat} (ho : GOk K gg bd js) (hj : ∀ j ∈ js, j ∈ vs) {σ : L2.St} {H : Hp} {Q : VK} (q : tD K cl W (fLcO j bd ft fe vs) σ H Q) :
    tLc (iSeq K (tVar j)) gg (tT K cl (fun _ _ _ _ => False) ft) (tD K cl (fun _ _ _ _ => False) fe) vs σ H Q := by
  obtain ⟨G1, s1, S1, q⟩ := q
  unfold fLcO at q
  by_cases hjv : j ∈ vs
  · rw [if_pos hjv] at q; exact q.elim
  rw [if_neg hjv] at q
  split at q
  rotate_left
  · exact q.elim
  rename_i ds eo
  obtain ⟨a, xs, ea, ha, hd⟩ := S1.slot j _ eo
  have ea' : σ[j]? = some (some (.ref a)) := by
    cases z : σ[j]? with
    | none => rw [z] at ea; cases ea
    | some o => rw [z] at ea; simp at ea; rw [ea]
  refine ⟨.ref a, ea', .inl ⟨a, rfl, ⟨xs, .of ha⟩, fun D hD => ?_⟩⟩
  unfold kLcO at q
  have k := out_bind q
  by_cases hz : leS ds.length
  rotate_left
  · rw [if_neg hz] at k; exact k.elim
  rw [if_pos hz] at k
  have hz : ds.length ≤ sizeLine := hz
  obtain ⟨stD, SD, rrD⟩ := new_list (ds := []) S1 hD .nil (fun _ h => h)
  obtain ⟨aD, xD, eD, _, _, gD, _, nD⟩ := rrD
  cases eD
  refine ⟨fun i m H2 => ∃ G2 s2 acc accv, SA K G2 s2 σ H2 ∧ Stp G1 s1 σ H G2 s2 σ H2 ∧ H2 D = some (.lst accv) ∧ RpAll K G2 accv acc ∧ G2 D = none ∧ ¬ Own s2 σ D ∧ acc.length ≤ i ∧ m = ds.length - i ∧ i ≤ ds.length ∧
      Out K cl W G1 s1 σ H (loopCO j ds bd ft fe vs (ds.drop i) acc s2) _, ⟨ds.length, G1, s1, [], [], SD, stD, upd_same, .nil, gD, nD, Nat.le_refl _, by simp, Nat.zero_le _, by simpa using k⟩, ?_⟩
  rintro i m H2 ⟨G2, s2, acc, accv, S2, st2, hD2, hacc, gD2, nD2, hla, rfl, hi, k2⟩
  by_cases hl : i < ds.length
  · rw [List.drop_eq_getElem_cons hl] at k2
    unfold loopCO at k2
    by_cases hown : isOwnL j ds s2
    rotate_left
    · rw [if_neg hown] at k2; exact k2.elim
    rw [if_pos hown] at k2
    have hown : s2.d[j]? = some (.own ds) := hown
    obtain ⟨j1, j2⟩ := itO S2 hown ea' i
    obtain ⟨go, yl⟩ := j1 ds[i] (List.getElem?_eq_getElem hl)
    refine .inr ⟨go, fun H3 => ∃ G3 s3 acc accv, SA K G3 s3 σ H3 ∧ Stp G1 s1 σ H G3 s3 σ H3 ∧ H3 D = some (.lst accv) ∧ RpAll K G3 accv acc ∧ G3 D = none ∧ ¬ Own s3 σ D ∧ acc.length ≤ i + 1 ∧
      Out K cl W G1 s1 σ H (loopCO j ds bd ft fe vs (ds.drop (i + 1)) acc s3) _, fun H3 ⟨G3, s3, acc, accv, a1, a2, a3, a4, a5, a6, a7, a8⟩ => ⟨ds.length - (i + 1), by omega, G3, s3, acc, accv, a1, a2, a3, a4, a5, a6, a7, rfl, hl, a8⟩, fun x H3 y => ?_⟩
    by_cases hn : noOwn vs s2.d = true
    rotate_left
    · rw [if_neg hn] at k2; exact k2.elim
    rw [if_pos hn] at k2
    obtain ⟨stB, SB⟩ := sa_blank vs S2 hn
    have hob : ({ s2 with d := blank vs s2.d } : DSt).d[j]? = some (.own ds) := by
      show (blank vs s2.d)[j]? = _
      rw [blank_get, if_neg hjv]; exact hown
    have eab : (wipe σ vs)[j]? = some (some (.ref a)) := by rw [wipe_get, if_neg hjv]; exact ea'
    obtain ⟨j3, _⟩ := itO SB hob eab i
    obtain ⟨_, yl⟩ := j3 ds[i] (List.getElem?_eq_getElem hl)
    obtain ⟨G3, st3, S3, rp⟩ := yl x H3 y
    cases eb : bd ds[i] { s2 with d := blank vs s2.d } with
    | none => rw [eb] at k2; exact k2.elim
    | some s4 =>
      rw [eb] at k2
      refine ho x ds[i] G3 _ (wipe σ vs) H3 s4 _ S3 rp eb fun σ4 l4 n4 m4 w4 st4 S4 => ?_
      have hw : wipe σ4 vs = wipe σ vs := (wipe_same l4 fun i hi => n4 i fun z => hi (hj i z)).trans (wipe_wipe σ vs)
      refine ⟨hw, G3, s4, S4, ?_⟩
      have stA := (stB.trans st3).trans st4
      have fin : ∀ {G5 : Hp} {s5 : DSt} {H5 : Hp}, Stp G2 s2 σ H2 G5 s5 σ4 H5 → SA K G5 s5 σ4 H5 → SA K G5 { s5 with d := putBack vs s2.d s5.d } σ H5 ∧ Stp G1 s1 σ H G5 { s5 with d := putBack vs s2.d s5.d } σ H5 ∧ H5 D = some (.lst accv) ∧ G5 D = none ∧ ¬ Own { s5 with d := putBack vs s2.d s5.d } σ D := by
        intro G5 s5 H5 st5 S5
        obtain ⟨b1, b2⟩ := sa_back S2 hn S5 st5.ex hw
        obtain ⟨c1, c2⟩ := st5.keep D _ hD2 nD2
        have st6 : Stp G2 s2 σ H2 G5 { s5 with d := putBack vs s2.d s5.d } σ H5 := ⟨st5.ex, st5.keep, fun a z => st5.own a (b2 a z), st5.dom, st5.pw⟩
        exact ⟨b1, st2.trans st6, c1, c2.trans gD2, fun z => (st6.own D z).elim nD2 fun z => by rw [hD2] at z; cases z⟩
      have k2 : Out K cl W G1 s1 σ H ((nerr (ft s4)).bind _) _ := k2
      cases et : ft s4 with
      | err x s5 => rw [et] at k2; exact k2.elim
      | stuck => rw [et] at k2; exact k2.elim
      | ok t s5 =>
        rw [et] at k2
        intro G5 H5 st5 S5
        have st25 := stA.trans st5
        cases t with
        | false =>
          obtain ⟨b1, b2, b3, b4, b5⟩ := fin st25 S5
          exact ⟨G5, _, acc, accv, b1, b2, b3, dps_mono st25.ex _ _ hacc, b4, b5, Nat.le_succ_of_le hla, k2⟩
        | true =>
          have k2 : Out K cl W G1 s1 σ H ((nerr (bnd fe fEsc s5)).bind _) _ := k2
          refine ⟨G5, s5, S5, ?_⟩
          cases ef : fe s5 with
          | err x s6 => rw [bnd_app, ef] at k2; exact k2.elim
          | stuck => rw [bnd_app, ef] at k2; exact k2.elim
          | ok r s6 =>
            rw [bnd_app, ef] at k2
            intro G6 H6 st6 S6 v rr
            have k2 : Out K cl W G1 s1 σ H ((nerr (fEsc r s6)).bind _) _ := k2
            unfold fEsc at k2
            cases ee : esc r s6 with
            | none => rw [ee] at k2; exact k2.elim
            | some p =>
              obtain ⟨r2, s7⟩ := p
              rw [ee] at k2
              obtain ⟨G7, st7, S7, ex7, ar⟩ := esc_ok S6 st6 rr ee
              have st27 := st25.trans st7
              obtain ⟨b1, b2, b3, b4, b5⟩ := fin st27 S7
              cases r2 with
              | raw u => exact k2.elim
              | ob o => exact k2.elim
              | new u => exact k2.elim
              | slot u => exact k2.elim
              | val d =>
                have hacc7 := dps_mono st27.ex _ _ hacc
                refine ⟨accv, b3, ?_, G7, _, acc ++ [d], accv ++ [v], sa_write b1 b4 b5, ⟨b2.ex, fun a o h1 h2 => ?_, b2.own, fun a h1 => ?_, b2.pw⟩, upd_same, dps_app hacc7 (.cons ar .nil), b4, b5, by simp; omega, k2⟩
                · rw [dps_len hacc]
                  omega
                · have ne : a ≠ D := fun z => by subst z; rw [hD] at h1; cases h1
                  rw [upd_ne ne]
                  exact b2.keep a o h1 h2
                · by_cases ne : a = D
                  · subst ne; rw [upd_same]; simp
                  · rw [upd_ne ne]; exact b2.dom a h1
  · have e : i = ds.length := by omega
    subst e
    rw [List.drop_length] at k2
    unfold loopCO at k2
    by_cases hown : isOwnL j ds s2
    rotate_left
    · rw [if_neg hown] at k2; exact k2.elim
    rw [if_pos hown] at k2
    refine .inl ⟨(itO S2 hown ea' ds.length).2 (Nat.le_refl _), ?_⟩
    have k3 := k2 G2 H2 st2 S2
    have k4 := k3 G2 H2 Stp.refl S2 (.ref D) ⟨D, accv, rfl, hD2, hacc, gD2, hD, nD2⟩
    exact k4
theorem d_lcO {elt : Expr} {ifs : List Expr} {scope : Scope} {own : List (Str × Nat)} {gg : TG} {bd : Bd} {js : List Nat} {ft : M Bool} {fe : M R} {j : Nat} (hc : X.calm = true) (hN : X.N.Nodup) (hi : PE X iter (tVar j)) (ok : BlkOk X.N X.env.scope scope own) (ho : GOk X.K gg bd js) (hj : ∀ j ∈ js, j ∈ own.map (·.2))
    (hg : ∀ (s : Shared) (H : Hp) (C : Addr) (cl : List (Str × Addr)) (fp : List Addr), PG (X.blk s H scope (compEnvC scope cl C X.env) fp) tg gg) (ht : ∀ (s : Shared) (H : Hp) (C : Addr) (clo : List (Str × Addr)) (fp : List Addr), PTs (X.blk s H scope (compEnvC scope clo C X.env) fp) ifs (tT X.K cl W0 ft))
    (he : ∀ (s : Shared) (H : Hp) (C : Addr) (clo : List (Str × Addr)) (fp : List Addr), DE (X.blk s H scope (compEnvC scope clo C X.env) fp) cl W0 elt fe) (hs : ∀ x, foldedSetIterable iter X.env x = pure x := by intro _; rfl) :
    DE X cl W (.ListComp elt [⟨tg, iter, ifs, 0⟩] scope pos) (fLcO j bd ft fe (own.map (·.2))) := pe_imp (pe_lc hc hN (pi_seq hi) ok hg ht he hs) fun σ H Q q => lcO_reads ho hj q
theorem s_setLcO {i : Nat} {y : Str} {py : Pos} {elt : Expr} {ifs : List Expr} {scope : Scope} {own : List (Str × Nat)} {spos : Pos} {gg : TG} {bd : Bd} {js : List Nat} {ft : M Bool} {fe : M R} {j : Nat} (hc : X.calm = true) (hN : X.N.Nodup) (hy : X.N[i]? = some y) (hyl : X.env.scope.names.lookup y = some .local)
    (hsw : swapsWith (.ListComp elt [⟨tg, iter, ifs, 0⟩] scope pos) (some (.Name y py)) spos.line X.env = pure true) (hi : PE X iter (tVar j)) (ok : BlkOk X.N X.env.scope scope own) (ho : GOk X.K gg bd js) (hj : ∀ j ∈ js, j ∈ own.map (·.2))
    (hg : ∀ (s : Shared) (H : Hp) (C : Addr) (cl : List (Str × Addr)) (fp : List Addr), PG (X.blk s H scope (compEnvC scope cl C X.env) fp) tg gg) (ht : ∀ (s : Shared) (H : Hp) (C : Addr) (clo : List (Str × Addr)) (fp : List Addr), PTs (X.blk s H scope (compEnvC scope clo C X.env) fp) ifs (tT X.K cl W0 ft))
    (he : ∀ (s : Shared) (H : Hp) (C : Addr) (clo : List (Str × Addr)) (fp : List Addr), DE (X.blk s H scope (compEnvC scope clo C X.env) fp) cl W0 elt fe) (hs : ∀ x, foldedSetIterable iter X.env x = pure x := by intro _; rfl) :
    DS X cl W (.Assign [.Name y py] (.ListComp elt [⟨tg, iter, ifs, 0⟩] scope pos) spos) (fSet i (fLcO j bd ft fe (own.map (·.2)))) := ps_imp (ps_setLc hc hN hy hyl hsw (pi_seq hi) ok hg ht he hs) fun D σ H q => by
  have q' := set_reads q
  exact lcO_reads ho hj q'
end
theorem loopCO_gen {α : Type} {j : Nat} {all : List PyData} {b : Bd} {ft : M Bool} {fe : M R} {vs : List Nat} {s : DSt} {f : α → PyData} (sb : α → DSt) (keep : α → Bool) (g : α → PyData) (hj : s.d[j]? = some (.own all)) (hn : noOwn vs s.d = true) : ∀ (l : List α) (acc : List PyData),
    (∀ a ∈ l, b (f a) ⟨blank vs s.d, s.w⟩ = some (sb a)) → (∀ a ∈ l, (⟨putBack vs s.d (sb a).d, (sb a).w⟩ : DSt) = s) → (∀ a ∈ l, ft (sb a) = .ok (keep a) (sb a)) → (∀ a ∈ l, keep a = true → (fe (sb a)).bind fEsc = .ok (.val (g a)) (sb a)) →
    loopCO j all b ft fe vs (l.map f) acc s = .ok (acc ++ (l.filter keep).map g) s
  | [], acc, _, _, _, _ => by
    show (if isOwnL j all s then Res.ok acc s else .stuck) = _
    rw [if_pos (show isOwnL j all s from hj)]; simp
  | a :: l, acc, h1, h2, h3, h4 => by
    have ih := fun acc => loopCO_gen (j := j) (all := all) sb keep g hj hn l acc (fun d hd => h1 d (List.mem_cons_of_mem _ hd)) (fun d hd => h2 d (List.mem_cons_of_mem _ hd)) (fun d hd => h3 d (List.mem_cons_of_mem _ hd)) (fun d hd => h4 d (List.mem_cons_of_mem _ hd))
    have e1 := h1 a List.mem_cons_self
    have e2 := h2 a List.mem_cons_self
    have e3 := h3 a List.mem_cons_self
    rw [List.map_cons]
    unfold loopCO
    rw [if_pos (show isOwnL j all s from hj), if_pos hn, e1]
    dsimp only
    rw [e3]
    cases k : keep a with
    | false =>
      show loopCO j all b ft fe vs (l.map f) acc _ = _
      rw [e2, ih]
      simp [k]
    | true =>
      have e4 := h4 a List.mem_cons_self k
      show (nerr (bnd fe fEsc (sb a))).bind _ = _
      rw [bnd_app, e4]
      show loopCO j all b ft fe vs (l.map f) (acc ++ [g a]) _ = _
      rw [e2, ih]
      simp [k]
theorem lcO_gen {α : Type} {j : Nat} {b : Bd} {ft : M Bool} {fe : M R} {vs : List Nat} {s : DSt} {f : α → PyData} {l : List α} (sb : α → DSt) (keep : α → Bool) (g : α → PyData) (hj : s.d[j]? = some (.own (l.map f))) (hjv : j ∉ vs) (hl : l.length ≤ 100000) (hn : noOwn vs s.d = true)
    (h1 : ∀ a ∈ l, b (f a) ⟨blank vs s.d, s.w⟩ = some (sb a)) (h2 : ∀ a ∈ l, (⟨putBack vs s.d (sb a).d, (sb a).w⟩ : DSt) = s) (h3 : ∀ a ∈ l, ft (sb a) = .ok (keep a) (sb a)) (h4 : ∀ a ∈ l, keep a = true → (fe (sb a)).bind fEsc = .ok (.val (g a)) (sb a)) :
    fLcO j b ft fe vs s = .ok (.new ((l.filter keep).map g)) s := by
  have hl2 : leS (l.map f).length := by rw [List.length_map]; exact size_le hl
  unfold fLcO
  rw [if_neg hjv, hj]
  show kLcO s j b ft fe vs (l.map f) = _
  unfold kLcO
  rw [if_pos hl2, loopCO_gen sb keep g hj hn l [] h1 h2 h3 h4]
  simp [kNewL]
/-- a while loop that may answer -/
theorem whileF_any {c : M Bool} {p : DSt → Flow} (Inv : DSt → Prop) (Post : R → DSt → Prop) (m : DSt → Nat) (n : Nat) {s : DSt} (h0 : Inv s) (hn : m s < n)
    (step : ∀ s, Inv s → (∃ s1, c s = .ok true s1 ∧ ((∃ s2, p s1 = .next s2 ∧ Inv s2 ∧ m s2 < m s) ∨ ∃ r s2, p s1 = .ret r s2 ∧ Post r s2)) ∨ (c s = .ok false s)) : (∃ s', whileF c p n s = .next s' ∧ Inv s' ∧ c s' = .ok false s') ∨ ∃ r s', whileF c p n s = .ret r s' ∧ Post r s' := by
  induction n generalizing s with
  | zero => omega
  | succ n ih =>
    rcases step s h0 with ⟨s1, e1, ⟨s2, e2, h2, hm⟩ | ⟨r, s2, e2, h2⟩⟩ | e
    · have := ih h2 (by omega)
      unfold whileF
      simp only [e1, x_onRes_ok, if_true, e2]
      exact this
    · refine .inr ⟨r, s2, ?_, h2⟩
      unfold whileF
      simp only [e1, x_onRes_ok, if_true, e2]
    · refine .inl ⟨s, ?_, h0, e⟩
      unfold whileF
      simp [e]
end DL

/-! DL28: results that are new all through -/
noncomputable section
namespace DL
open PySem L2 PyProof.Rows
open Evl (Ex)
def Dom (H0 H : Hp) : Prop := ∀ a, H0 a ≠ none → H a ≠ none
theorem Dom.none {H0 H : Hp} (d : Dom H0 H) {a : Addr} (h : H a = none) : H0 a = none := Classical.byContradiction fun z => d a z h
/-- the lists among what stands at xs are none of H0 -/
def NewIn (H0 : Hp) (ds : List PyData) (xs : List V) : Prop := ∀ (i : Nat) b es, ds[i]? = some (.list es) → xs[i]? = some (.ref b) → H0 b = none
/-- they stand at one place each -/
def OneIn (ds : List PyData) (xs : List V) : Prop := ∀ (i j : Nat) b es fs, ds[i]? = some (.list es) → ds[j]? = some (.list fs) → xs[i]? = some (.ref b) → xs[j]? = some (.ref b) → i = j
def DeepL (ds : List PyData) (H0 H : Hp) (v : V) : Prop := ∀ a xs, v = .ref a → H a = some (.lst xs) → H0 a = none ∧ NewIn H0 ds xs
def DeepT (K : PySem.W.Frag) (ds : List PyData) (H0 H : Hp) (v : V) : Prop := ∃ a xs, v = .ref a ∧ H a = some (.tup xs) ∧ H0 a = none ∧ RpAll K H xs ds ∧ NewIn H0 ds xs ∧ OneIn ds xs
def DeepV (K : PySem.W.Frag) (H0 H : Hp) (v : V) : PyData → Prop
  | .list ds => DeepL ds H0 H v
  | .tuple ds => DeepT K ds H0 H v
  | _ => True
def DeepR (K : PySem.W.Frag) (H0 H : Hp) (s : DSt) (v : V) : R → Prop
  | .new ds => DeepL ds H0 H v
  | .slot i => (∀ ds, s.d[i]? = some (.own ds) → DeepL ds H0 H v) ∧ ∀ d, s.d[i]? = some (.val d) → DeepV K H0 H v d
  | .val d => DeepV K H0 H v d
  | _ => True
theorem NewIn.less {H0 H1 : Hp} {ds : List PyData} {xs : List V} (d : Dom H0 H1) (h : NewIn H1 ds xs) : NewIn H0 ds xs := fun i b es e1 e2 => d.none (h i b es e1 e2)
theorem DeepL.less {H0 H1 H : Hp} {ds : List PyData} {v : V} (d : Dom H0 H1) (h : DeepL ds H1 H v) : DeepL ds H0 H v := fun a xs e e2 => ⟨d.none (h a xs e e2).1, (h a xs e e2).2.less d⟩
theorem DeepT.less {K : PySem.W.Frag} {H0 H1 H : Hp} {ds : List PyData} {v : V} (d : Dom H0 H1) (h : DeepT K ds H1 H v) : DeepT K ds H0 H v := by
  obtain ⟨a, xs, e, e2, h0, hr, h1, h2⟩ := h
  exact ⟨a, xs, e, e2, d.none h0, hr, h1.less d, h2⟩
theorem DeepV.less {K : PySem.W.Frag} {H0 H1 H : Hp} {v : V} {x : PyData} (d : Dom H0 H1) (h : DeepV K H1 H v x) : DeepV K H0 H v x := by
  cases x <;> first | trivial | exact DeepL.less d h | exact DeepT.less d h
theorem DeepR.less {K : PySem.W.Frag} {H0 H1 H : Hp} {s : DSt} {v : V} {r : R} (d : Dom H0 H1) (h : DeepR K H1 H s v r) : DeepR K H0 H s v r := by
  cases r with
  | new ds => exact DeepL.less d h
  | slot i => exact ⟨fun ds e => (h.1 ds e).less d, fun x e => (h.2 x e).less d⟩
  | raw v => trivial
  | ob o => trivial
  | val x => exact DeepV.less d h
/-- own slots hold what is new -/
structure Of (H0 : Hp) (s : DSt) (σ : L2.St) (H : Hp) : Prop where
  dom : Dom H0 H
  own : ∀ i a, OwnAt s σ i a → H0 a = none
/-- nothing that is known is an old thing -/
def Gf (H0 G : Hp) : Prop := ∀ a, H0 a ≠ none → G a = none
section
variable {K : PySem.W.Frag} {H0 G H G' H' G4 H4 Gm : Hp} {s s' s4 : DSt} {σ σ' σ4 : L2.St} {v : V} {r : R}
theorem Of.step (j : Of H0 s σ H) (st : Stp G s σ H G' s' σ' H') (S' : SA K G' s' σ' H') : Of H0 s' σ' H' := by
  refine ⟨fun a h => st.dom a (j.dom a h), fun i a z => ?_⟩
  rcases st.own a (.inl ⟨i, z⟩) with q | q
  · rcases q with ⟨k, q⟩ | q
    · exact j.own k a q
    · exact absurd (st.pw a q) (S'.pne i a z)
  · exact j.dom.none q
theorem Gf.step (g : Gf H0 G) (j : Of H0 s σ H) (st : Stp G s σ H G' s' σ' H') (S' : SA K G' s' σ' H') : Gf H0 G' := by
  intro a ha
  obtain ⟨o, e⟩ := Option.ne_none_iff_exists'.mp (j.dom a ha)
  by_cases z : Own s σ a
  · rcases z with ⟨i, z⟩ | z
    · exact absurd (j.own i a z) ha
    · exact G_pown S'.pw (st.pw a z)
  · rw [(st.keep a o e z).2]; exact g a ha
theorem Gf.none (g : Gf H0 G) {a : Addr} {o : HO} (h : G a = some o) : H0 a = none := Classical.byContradiction fun z => by rw [g a z] at h; cases h
theorem newIn_of {xs : List V} {ds : List PyData} (g : Gf H0 G) (hd : RpAll K G xs ds) : NewIn H0 ds xs := by
  intro i b es e1 e2
  obtain ⟨d, e3, rr⟩ := dps_get hd e2
  rw [e1] at e3
  cases e3
  cases rr with
  | lst h _ => exact g.none h
theorem deepR_of (g : Gf H0 G') (j : Of H0 s' σ' H') (S' : SA K G' s' σ' H') (dm : Dom H0 H) (rr : RRel K H G' s' σ' H' v r) (nt : ∀ ds, r ≠ .val (.tuple ds)) (nt2 : ∀ i ds, r = .slot i → s'.d[i]? ≠ some (.val (.tuple ds))) : DeepR K H0 H' s' v r := by
  have hl : ∀ a xs ds, H' a = some (.lst xs) → RpAll K G' xs ds → H0 a = none → DeepL ds H0 H' (.ref a) := by
    intro a xs ds ha hd h0 a' xs' e e2
    cases e
    rw [ha] at e2
    cases e2
    exact ⟨h0, newIn_of g hd⟩
  have hv : ∀ d, Rp K G' v d → (∀ ds, d ≠ .tuple ds) → DeepV K H0 H' v d := by
    intro d hd nt
    cases d with
    | list ds =>
      cases hd with
      | lst hs ha => exact hl _ _ _ (S'.gh _ _ hs) ha (g.none hs)
    | tuple ds => exact absurd rfl (nt ds)
    | _ => trivial
  cases r with
  | raw u => trivial
  | ob o => trivial
  | val d => exact hv d rr fun ds e => nt ds (by rw [e])
  | new ds =>
    obtain ⟨a, xs, rfl, ha, hd, _, h0, _⟩ := rr
    exact hl a xs ds ha hd (dm.none h0)
  | slot i =>
    have rr : σ'[i]? = some (some v) := rr
    refine ⟨fun ds e => ?_, fun d e => ?_⟩
    · obtain ⟨a, xs, e1, ha, hd⟩ := S'.slot i _ e
      rw [rr] at e1
      cases e1
      exact hl a xs ds ha hd (j.own i a ⟨⟨_, e⟩, rr⟩)
    · obtain ⟨u, e1, hd⟩ := S'.slot i _ e
      rw [rr] at e1
      cases e1
      exact hv d hd fun ds z => nt2 i ds rfl (by rw [e, z])
/-- what was done with less known was done with all that is known -/
def mergeG (G4 G : Hp) : Hp := fun x => match G4 x with
  | some o => some o
  | none => G x
theorem merge_none {x : Addr} (h : G4 x = none) : mergeG G4 G x = G x := by unfold mergeG; rw [h]
theorem merge_ex : Ex G4 (mergeG G4 G) := fun a o e => by unfold mergeG; rw [e]
theorem restart (S : SA K G s σ H) (Sm : SA K Gm s σ H) (hm : Ex Gm G) (st : Stp Gm s σ H G4 s4 σ4 H4) (S4 : SA K G4 s4 σ4 H4) : ∃ G', Stp G s σ H G' s4 σ4 H4 ∧ SA K G' s4 σ4 H4 ∧ Ex G4 G' ∧ ∀ a, H a = none → G' a = G4 a := by
  have gown : ∀ a, Own s σ a → G a = none := fun a z => by
    rcases z with ⟨i, z⟩ | z
    · exact S.ownG i a z
    · exact G_pown S.pw z
  have hG : ∀ a o, G a = some o → H4 a = some o ∧ G4 a = Gm a := fun a o e => st.keep a o (S.gh a o e) fun z => by rw [gown a z] at e; cases e
  have exG : Ex G (mergeG G4 G) := fun a o e => by
    unfold mergeG
    cases q : G4 a with
    | none => exact e
    | some o' =>
      have h1 := S4.gh a o' q
      rw [(hG a o e).1] at h1
      cases h1
      rfl
  have hn : ∀ a, Own s4 σ4 a → G a = none := fun a z => by
    rcases st.own a z with q | q
    · exact gown a q
    · exact Classical.byContradiction fun w => by
        obtain ⟨o, e⟩ := Option.ne_none_iff_exists'.mp w
        rw [S.gh a o e] at q; cases q
  refine ⟨mergeG G4 G, ⟨exG, fun a o e no => ?_, st.own, st.dom, st.pw⟩, ⟨S4.len, fun a o e => ?_, fun i sl h => ?_, S4.inj, fun i a z => ?_, ?_, S4.pne⟩, merge_ex, fun a h => ?_⟩
  · obtain ⟨h1, h2⟩ := st.keep a o e no
    refine ⟨h1, ?_⟩
    cases q : G4 a with
    | none => exact merge_none q
    | some o' =>
      have h3 : Gm a = some o' := by rw [← h2]; exact q
      rw [merge_ex a o' q, hm a o' h3]
  · unfold mergeG at e
    cases q : G4 a with
    | none => rw [q] at e; exact (hG a o e).1
    | some o' => rw [q] at e; cases e; exact S4.gh a o q
  · have q := S4.slot i sl h
    cases sl with
    | no => trivial
    | val d => obtain ⟨v, e, hd⟩ := q; exact ⟨v, e, dp_mono merge_ex _ _ hd⟩
    | raw v => exact q
    | ob o => obtain ⟨v, e, hd⟩ := q; exact ⟨v, e, ob_mono merge_ex hd⟩
    | own es => obtain ⟨a, xs, e, ha, hh⟩ := q; exact ⟨a, xs, e, ha, dps_mono merge_ex _ _ hh⟩
  · rw [merge_none (S4.ownG i a z)]; exact hn a (.inl ⟨i, z⟩)
  · have q := S4.pw
    unfold PwOk at q ⊢
    split
    · trivial
    · rename_i pa ca cells t e
      rw [e] at q
      refine ⟨q.1, q.2.1, q.2.2.1, ?_, ?_⟩
      · rw [merge_none q.2.2.2.1]; exact hn pa (.inr (by rw [e]; exact .inl rfl))
      · rw [merge_none q.2.2.2.2]; exact hn ca (.inr (by rw [e]; exact .inr rfl))
  · unfold mergeG
    cases q : G4 a with
    | some o => rfl
    | none =>
      refine Classical.byContradiction fun w => ?_
      obtain ⟨o, e⟩ := Option.ne_none_iff_exists'.mp w
      rw [S.gh a o e] at h; cases h
end
/-! ### judgements -/
section
variable (K : PySem.W.Frag) (cl : String → Addr) (W : WX)
def spFd (F : List R → Pw → FRes) : Sp := fun vs H Q E => ∃ (G : Hp) (rs : List R) (w : Pw), Ex G H ∧ Paired (AR K G) vs rs ∧ PwOk G w H ∧ match F rs w with
  | .ok r w' => ∀ v G' H', FStp G w H G' w' H' → PwOk G' w' H' → FRel K H G' w' H' v r → DeepR K H H' ⟨[], none⟩ v r → Q v H'
  | .err x w' => ∀ cls d G' H', FStp G w H G' w' H' → PwOk G' w' H' → XRel K cl x cls d H' → E cls d H'
  | .stuck => False
def FOutd (H0 G : Hp) (s : DSt) (σ : L2.St) (H : Hp) (fl : Flow) (D : Ends) : Prop := match fl with
  | .next s' => ∀ G' σ' H', Stp G s σ H G' s' σ' H' → SA K G' s' σ' H' → D.nx σ' H'
  | .brk s' => ∀ G' σ' H', Stp G s σ H G' s' σ' H' → SA K G' s' σ' H' → D.bk σ' H'
  | .cnt s' => ∀ G' σ' H', Stp G s σ H G' s' σ' H' → SA K G' s' σ' H' → D.ct σ' H'
  | .ret r s' => ∀ v G' σ' H', Stp G s σ H G' s' σ' H' → SA K G' s' σ' H' → RRel K H G' s' σ' H' v r → DeepR K H0 H' s' v r → D.rt v H'
  | .err x s' => ∀ cls d G' σ' H', Stp G s σ H G' s' σ' H' → SA K G' s' σ' H' → XRel K cl x cls d H' → W cls d σ' H'
  | .stuck => False
def tSd (H0 : Hp) (f : DSt → Flow) : TS := fun D σ H => ∃ G s, SA K G s σ H ∧ Of H0 s σ H ∧ FOutd K cl W H0 G s σ H (f s) D
def tDd (H0 : Hp) (f : M R) : TE := fun σ H Q => ∃ G s, SA K G s σ H ∧ Dom H0 H ∧ Out K cl W G s σ H (f s) fun r G' s' H' => ∀ v, RRel K H G' s' σ H' v r → DeepR K H0 H' s' v r → Q v H'
end
def Cald (P : Program) (w : World) (K : PySem.W.Frag) (mg : Str → Option Value) (base : Heap) (cl : String → Addr) (x : Str) (k : Nat) (ps : List Str) (F : List R → Pw → FRes) : Prop :=
  ∃ (f : Addr) (fd : FuncData), FnG P w K mg base (L2.CX P w) k f fd ps (spFd K cl F) ∧ mg x = some (.ref f) ∧ PySem.W.keepIn K (.ref f) = true ∧ Binds K fd ps []
section
variable {K : PySem.W.Frag} {cl : String → Addr} {W : WX} {H0 G H G' H' : Hp} {s s' : DSt} {σ σ' : L2.St}
theorem foutd_shift {fl : Flow} {D : Ends} (st : Stp G s σ H G' s' σ' H') (h : FOutd K cl W H0 G s σ H fl D) : FOutd K cl W H0 G' s' σ' H' fl D := by
  cases fl with
  | next s2 => exact fun G2 σ2 H2 st2 S2 => h G2 σ2 H2 (st.trans st2) S2
  | brk s2 => exact fun G2 σ2 H2 st2 S2 => h G2 σ2 H2 (st.trans st2) S2
  | cnt s2 => exact fun G2 σ2 H2 st2 S2 => h G2 σ2 H2 (st.trans st2) S2
  | ret r s2 => exact fun v G2 σ2 H2 st2 S2 rr => h v G2 σ2 H2 (st.trans st2) S2 (rr.less st.dom)
  | err x s2 => exact fun c d G2 σ2 H2 st2 S2 xr => h c d G2 σ2 H2 (st.trans st2) S2 xr
  | stuck => exact h
theorem foutd_res {α : Type} {r : Res α} {g : α → DSt → Flow} {D : Ends} (h : FOutd K cl W H0 G s σ H (onRes r g) D) : Out K cl W G s σ H r fun a G1 s1 H1 => FOutd K cl W H0 G s σ H (g a s1) D := by
  cases r with
  | ok a s1 => exact fun G1 H1 st S1 => h
  | err x s1 => exact fun c d G1 H1 st S1 xr => h c d G1 σ H1 st S1 xr
  | stuck => exact h
/-- a statement that does not return, then more -/
def fseqn (f g : DSt → Flow) : DSt → Flow := fun s => match f s with
  | .next s' => g s'
  | .err x s' => .err x s'
  | _ => .stuck
end
/-- THE RULE for a def -/
theorem cald_of {P : Program} {w : World} {K : PySem.W.Frag} {mg : Str → Option Value} {base : Heap} {cl : String → Addr} {x : Str} {k : Nat} {N ps : List Str} {st : Stmt} {p : DSt → Flow} (h : Wr K mg x st ps) (S : FnScope N ps (defScope st)) (hN : ps.length ≤ N.length)
    (hb : ∀ (f : Addr) (cdv : Value) (A : Around) (outer : List Env) (s : Shared) (H : Hp) (E : XK), RoomG k (A.deeper (envOfC x (defScope st) s.heap.objs.size f cdv)) →
      PSs (cxOf (L2.CX P w) P w K mg base N x (defScope st) f cdv A outer s H E) (defBody st) (tSd K cl (fun cls d _ H => E cls d H) H p)) : Cald P w K mg base cl x (k + 1) ps (runF N.length ps.length p) := by
  obtain ⟨f, fd, F, g, b⟩ := h
  refine ⟨f, fd, ?_, g, F.kp, b⟩
  have hlen : ∀ {rs : List R} {w : Pw}, (match runF N.length ps.length p rs w with | .stuck => False | _ => True) → rs.length = ps.length := by
    intro rs w h
    unfold runF at h
    split at h
    · exact h.elim
    · rename_i z
      by_cases q : rs.length = ps.length
      · exact q
      · rw [if_neg q] at z; exact absurd rfl z
  refine okG F S (fun vs H Q E h => ?_) fun cdv A outer s H vs Q E hr h => ⟨_, hb f cdv A outer s H E hr, ?_⟩
  · obtain ⟨G, rs, w, gh, hv, pw, k⟩ := h
    rw [pair_len hv]
    refine hlen (w := w) ?_
    cases z : runF N.length ps.length p rs w with
    | ok r w' => trivial
    | err x w' => trivial
    | stuck => rw [z] at k; exact k
  · obtain ⟨G, rs, w, gh, hv, pw, k⟩ := h
    have hn : rs.length = ps.length := by
      refine hlen (w := w) ?_
      cases z : runF N.length ps.length p rs w with
      | ok r w' => trivial
      | err x w' => trivial
      | stuck => rw [z] at k; exact k
    have S0 := start_sa gh hv pw hn hN
    refine ⟨G, ⟨rs.map toSl ++ List.replicate (N.length - ps.length) .no, w⟩, show SA K G _ (L2.start N vs) H from S0, ⟨fun a h => h, fun i a z => ?_⟩, ?_⟩
    · exact absurd (start_own (.inl ⟨i, z⟩)) (S0.pne i a z)
    unfold runF at k
    rw [if_pos hn] at k
    cases z : p ⟨rs.map toSl ++ List.replicate (N.length - ps.length) .no, w⟩ with
    | next s' => rw [z] at k; exact fun G' σ' H' st S' => k .non G' H' (fstp_of st S') S'.pw .non trivial
    | brk s' => rw [z] at k; exact k.elim
    | cnt s' => rw [z] at k; exact k.elim
    | stuck => rw [z] at k; exact k.elim
    | err x s' => rw [z] at k; exact fun cls d G' σ' H' st S' xr => k cls d G' H' (fstp_of st S') S'.pw xr
    | ret r s' =>
      rw [z] at k
      intro v G' σ' H' st S' rr dr
      cases r with
      | val d => exact k v G' H' (fstp_of st S') S'.pw rr dr
      | raw u => exact k v G' H' (fstp_of st S') S'.pw rr dr
      | ob o => exact k v G' H' (fstp_of st S') S'.pw rr dr
      | new ds =>
        refine k v G' H' (fstp_of st S') S'.pw ?_ dr
        obtain ⟨a, xs, e, ha, hd, hg, h0, hn⟩ := rr
        exact ⟨a, xs, e, ha, hd, hg, h0, fun z => hn (.inr z)⟩
      | slot i =>
        have rr : σ'[i]? = some (some v) := rr
        dsimp only [finR] at k
        cases q : s'.d[i]? with
        | none => rw [q] at k; exact k.elim
        | some sl =>
          rw [q] at k
          cases sl with
          | no => exact k.elim
          | raw u => exact k.elim
          | ob o => exact k.elim
          | val d =>
            refine k v G' H' (fstp_of st S') S'.pw ?_ (dr.2 d q)
            obtain ⟨u, e, hd⟩ := S'.slot i _ q
            rw [rr] at e
            cases e
            exact hd
          | own ds =>
            refine k v G' H' (fstp_of st S') S'.pw ?_ (dr.1 ds q)
            obtain ⟨a, xs, e, ha, hd⟩ := S'.slot i _ q
            rw [rr] at e
            cases e
            have ho : OwnAt s' σ' i a := ⟨⟨ds, q⟩, rr⟩
            refine ⟨a, xs, rfl, ha, hd, S'.ownG i a ho, ?_, S'.pne i a ho⟩
            rcases st.own a (.inl ⟨i, ho⟩) with z | z
            · have z := start_own z
              exact absurd (st.pw a z) (S'.pne i a ho)
            · exact z
/-! ### rules -/
section
variable {X : Cx} {cl : String → Addr} {W : WX} {H0 : Hp} {e a b c : Expr} {es : List Expr} {f g : M R} {fs : M (List R)} {pos : Pos} {st : Stmt} {rest : List Stmt} {p q : DSt → Flow}
theorem sd_cons (h1 : DS X cl W st p) (h2 : PSs X rest (tSd X.K cl W H0 q)) : PSs X (st :: rest) (tSd X.K cl W H0 (fseqn p q)) := by
  refine pss_imp (pss_cons h1 h2) fun D σ H ⟨G, s, S, o, h⟩ => ⟨G, s, S, ?_⟩
  unfold fseqn at h
  cases z : p s with
  | next s' =>
    rw [z] at h
    exact fun G1 σ1 H1 st1 S1 => ⟨G1, s', S1, o.step st1 S1, foutd_shift st1 h⟩
  | brk s' => rw [z] at h; exact h.elim
  | cnt s' => rw [z] at h; exact h.elim
  | ret r s' => rw [z] at h; exact h.elim
  | err x s' => rw [z] at h; exact h
  | stuck => rw [z] at h; exact h
theorem sd_one (h : PS X st (tSd X.K cl W H0 p)) : PSs X [st] (tSd X.K cl W H0 p) := pss_one h
theorem sd_ret (h : PE X e (tDd X.K cl W H0 f)) : PS X (.Return (some e) pos) (tSd X.K cl W H0 (fRet f)) := by
  refine ps_imp (ps_ret h) fun D σ H ⟨G, s, S, o, h⟩ => ⟨G, s, S, o.dom, out_mono (foutd_res h) fun r G1 s1 H1 st1 S1 k v rr dr => ?_⟩
  exact k v G1 σ H1 st1 S1 rr dr
theorem dd_cal {F : List R → Pw → FRes} {k : Nat} {ps : List Str} {x : Str} {p : Pos} (h : Cald X.prog X.w X.K X.mg X.base cl x k ps F) (hr : RoomG k X.A) (hx : ∀ σ, PassesAt (L2.CX X.prog X.w) X σ (WE W σ)) (ha : DAe X cl W (e :: es) fs) (hg : Gl X x := by rfl) (hdb : (x == ("__debug__" : Str)) = false := by decide)
    (he : starEach (e :: es) X.env = (false, eval e X.env) :: starEach es X.env := by rfl) (hpl : (backTo pos (starEach es X.env)).any (·.1) = false := by rfl) : PE X (.Call (.Name x p) (e :: es) [] pos) (tDd X.K cl W H0 (fUser F fs)) := by
  obtain ⟨f, fd, ok, g, kp, b⟩ := h
  refine pe_imp (pe_callG ok hr hg g kp b hx ha hdb he hpl) fun σ H Q ⟨G, s, S, o, q⟩ => ?_
  refine ⟨G, s, S, out_mono (out_bind q) fun rs G1 s1 H1 st1 S1 k vs hv => ⟨G1, rs, s1.w, S1.gh, hv, S1.pw, ?_⟩⟩
  have dm : Dom H0 H1 := fun a h => st1.dom a (o a h)
  cases z : F rs s1.w with
  | ok r w' =>
    rw [z] at k
    intro v G' H' f pw fr dr
    obtain ⟨st, S'⟩ := call_stp S1 f pw
    have dr := dr.less dm
    cases r with
    | val d => exact k G' H' st S' v fr dr
    | raw u => exact k G' H' st S' v fr dr
    | ob o => exact k G' H' st S' v fr dr
    | slot i => exact fr.elim
    | new ds =>
      obtain ⟨a, xs, e, ha, hd, hg, h0, hn⟩ := fr
      refine k G' H' st S' v ⟨a, xs, e, ha, hd, hg, Classical.byContradiction fun z => st1.dom a z h0, fun z => ?_⟩ dr
      rcases z with ⟨i, z⟩ | z
      · obtain ⟨ys, e2⟩ := S1.ownH (.inl ⟨i, z⟩)
        rw [h0] at e2; cases e2
      · exact hn z
  | err x w' =>
    rw [z] at k
    intro cls d G' H' f pw xr
    obtain ⟨st, S'⟩ := call_stp S1 f pw
    exact k cls d G' H' st S' xr
  | stuck => rw [z] at k; exact k
end
end DL

/-! DL29: a list of lists that grows from nothing old -/
noncomputable section
namespace DL
open PySem L2 PyProof.Rows
open Evl (Ex)
def oneS (n i : Nat) (x : Sl) : List Sl := (List.replicate n Sl.no).set i x
theorem oneS_get {n i j : Nat} {x : Sl} {y : Sl} (h : (oneS n i x)[j]? = some y) : (j = i ∧ y = x) ∨ y = .no := by
  unfold oneS at h
  by_cases q : j = i
  · subst q
    rw [List.getElem?_set] at h
    split at h
    · split at h
      · cases h; exact .inl ⟨rfl, rfl⟩
      · cases h
    · rename_i z; exact absurd rfl z
  · rw [List.getElem?_set_ne (Ne.symm q), List.getElem?_replicate] at h
    split at h
    · cases h; exact .inr rfl
    · cases h
def fGrow (i : Nat) (f1 f2 : M R) (bd : Bd) (p q : DSt → Flow) : DSt → Flow := fun s => match f1 s with
  | .ok (.new d1) s1 => if i < s1.d.length ∧ d1.all atomD = true then (match f2 (putS i .no s1) with
    | .ok (.new d2) s2 => if d2.all atomD = true then (match loopF bd p d2 ⟨oneS s2.d.length i (.own [.list d1]), s2.w⟩ with
      | .next s3 => (match q s3 with
        | .ret (.new ds) s4 => .ret (.new ds) s4
        | _ => .stuck)
      | _ => .stuck) else .stuck
    | _ => .stuck) else .stuck
  | _ => .stuck
section
variable {K : PySem.W.Frag} {G H : Hp} {s : DSt} {σ : L2.St}
theorem sa_one {i : Nat} {p : Addr} {xs : List V} {ds : List PyData} {Gm : Hp} (S : SA K G s σ H) (hm : Ex Gm H) (e : σ[i]? = some (some (.ref p))) (hp : H p = some (.lst xs)) (no : ¬ POwn s.w p) (gp : Gm p = none) (gw : ∀ a, POwn s.w a → Gm a = none) (hd : RpAll K Gm xs ds) :
    SA K Gm ⟨oneS s.d.length i (.own ds), s.w⟩ σ H := by
  have ho : ∀ j a, OwnAt ⟨oneS s.d.length i (.own ds), s.w⟩ σ j a → j = i ∧ a = p := by
    rintro j a ⟨⟨es, h⟩, h2⟩
    rcases oneS_get h with ⟨rfl, _⟩ | h
    · rw [e] at h2; cases h2; exact ⟨rfl, rfl⟩
    · cases h
  refine ⟨by simp [oneS, S.len], hm, fun j sl h => ?_, fun j k a h1 h2 => (ho j a h1).1.trans (ho k a h2).1.symm, fun j a h => by rw [(ho j a h).2]; exact gp, ?_, fun j a h => by rw [(ho j a h).2]; exact no⟩
  · rcases oneS_get h with ⟨rfl, rfl⟩ | rfl
    · exact ⟨p, xs, by rw [e] <;> rfl, hp, hd⟩
    · trivial
  · have q := S.pw
    unfold PwOk at q ⊢
    split
    · trivial
    · rename_i pa ca cells t e
      have e : s.w = some (pa, ca, cells, t) := e
      rw [e] at q gw
      exact ⟨q.1, q.2.1, q.2.2.1, gw pa (.inl rfl), gw ca (.inr rfl)⟩
end
section
variable {X : Cx} {cl : String → Addr} {W : WX} {H0 : Hp} {e1 e2 tg : Expr} {body rest : List Stmt} {f1 f2 : M R} {pos pos' pl pf : Pos} {p q : DSt → Flow}
theorem sd_grow {i : Nat} {x : Str} {gg : TG} {bd : Bd} {js : List Nat} (hN : X.N.Nodup) (hi : X.N[i]? = some x) (hx : Loc X.env.scope x) (h1 : DE X cl W e1 f1)
    (hp : PassesOwn (model X.prog X.w) X.A X.env X.xe) (hc : X.calm = true) (h2 : DE X cl W e2 f2) (hg : PG X tg gg) (ho : GOk X.K gg bd js) (hb : DSs X cl W body p) (hr : DSs X cl W rest q)
    (hs1 : starEach [e1] X.env = (false, eval e1 X.env) :: starEach [] X.env := by rfl)
    (hs : swapsWith (.List [e1] pl) (some (.Name x pos')) pos.line X.env = pure false := by rfl) (hf : X.fn x = true ∨ X.env.scope.names.lookup x = some .local := by first | exact .inl rfl | exact .inr rfl | assumption)
    (hs2 : ∀ x, foldedSetIterable e2 X.env x = pure x := by intro _; rfl) :
    PSs X (.Assign [.Name x pos'] (.List [e1] pl) pos :: .For tg e2 body [] pf :: rest) (tSd X.K cl W H0 (fGrow i f1 f2 bd p q)) := by
  refine pss_imp (pss_cons (ps_set hN hi hx (pe_lst (pa_cons h1 pa_nil hs1)) hs hf) (pss_cons (ps_for hp hc (pi_seq h2) hg hb hs2) hr)) fun D σ H ⟨G, s, S, o, k⟩ => ?_
  refine ⟨G, s, S, ?_⟩
  unfold fGrow at k
  cases z1 : f1 s with
  | err x s1 => rw [z1] at k; exact k.elim
  | stuck => rw [z1] at k; exact k.elim
  | ok r1 s1 =>
  rw [z1] at k
  cases r1 with
  | val d => exact k.elim
  | raw d => exact k.elim
  | ob d => exact k.elim
  | slot d => exact k.elim
  | new d1 =>
  dsimp only at k
  split at k
  rotate_left
  · exact k.elim
  rename_i hil
  obtain ⟨hil, at1⟩ := hil
  intro G1 H1 st1 S1 v rr
  obtain ⟨b, vs1, rfl, hb1, hd1, gb1, hb0, nb1⟩ := rr
  obtain ⟨exA, SA1, rpA⟩ := know S1 hb1 hd1 gb1 nb1
  have stA : Stp G s σ H (upd G1 b (.lst vs1)) s1 σ H1 := ⟨st1.ex.trans exA, fun a u h1 h2 => by
    obtain ⟨h3, h4⟩ := st1.keep a u h1 h2
    exact ⟨h3, by rw [upd_ne fun z => by subst z; rw [hb0] at h1; cases h1]; exact h4⟩, st1.own, st1.dom, st1.pw⟩
  refine ⟨by show ([V.ref b] : List V).length ≤ sizeLine; exact (by decide : 1 ≤ sizeLine), fun pp hpp => ?_⟩
  obtain ⟨stB, SB, rrB⟩ := new_list (ds := [.list d1]) (H0 := H1) SA1 hpp (.cons rpA .nil) (fun _ h => h)
  obtain ⟨_, _, eB, hB, _, gB, h0B, nB⟩ := rrB
  cases eB
  have hilσ : i < σ.length := by rw [← S1.len]; exact hil
  have SC := put_ok (x := .no) (v := .ref pp) SB hil trivial (by intro _ _ z; cases z)
  have stC := put_stp (i := i) (x := .no) (v := .ref pp) SB (stA.trans stB) hil (by intro _ _ z; cases z)
  show tFor (iSeq X.K (tD X.K cl W f2)) gg (tS X.K cl W p) { nx := tS X.K cl W q D, rt := D.rt, bk := D.bk, ct := D.ct } (σ.set i (some (.ref pp))) (upd H1 pp (.lst [.ref b]))
  have eσ : (σ.set i (some (V.ref pp)))[i]? = some (some (.ref pp)) := List.getElem?_set_self hilσ
  obtain ⟨σA, hσA⟩ : ∃ σA, σA = σ.set i (some (V.ref pp)) := ⟨_, rfl⟩
  obtain ⟨HA, hHA⟩ : ∃ HA, HA = upd H1 pp (.lst [.ref b]) := ⟨_, rfl⟩
  rw [← hσA] at SC stC eσ ⊢
  rw [← hHA] at SC stC ⊢
  have hAp : HA pp = some (.lst [.ref b]) := by rw [hHA]; exact upd_same
  refine ⟨_, _, SC, ?_⟩
  cases z2 : f2 (putS i .no s1) with
  | err x s1 => rw [z2] at k; exact k.elim
  | stuck => rw [z2] at k; exact k.elim
  | ok r2 s2 =>
  rw [z2] at k
  cases r2 with
  | val d => exact k.elim
  | raw d => exact k.elim
  | ob d => exact k.elim
  | slot d => exact k.elim
  | new d2 =>
  dsimp only at k
  split at k
  rotate_left
  · exact k.elim
  rename_i at2
  intro G2 H2 st2 S2 v2 rr2
  obtain ⟨c, xs2, rfl, hc2, hd2, gc2, hc0, nc2⟩ := rr2
  -- the list is no own one at f2
  have npA : ¬ Own (putS i .no s1) σA pp := fun z => by
    rcases z with ⟨j, z⟩ | z
    · rw [hσA] at z
      rcases own_put hil SB.len z with ⟨_, ⟨ds, e⟩, _⟩ | ⟨_, z⟩
      · cases e
      · obtain ⟨ys, e⟩ := SA1.ownH (.inl ⟨j, z⟩)
        rw [hpp] at e; cases e
    · exact nB (.inr z)
  obtain ⟨hp2, gp2⟩ := st2.keep pp _ hAp npA
  have gp2 : G2 pp = none := gp2.trans gB
  have np2 : ¬ Own s2 σA pp := fun z => (st2.own pp z).elim npA fun e => by rw [hAp] at e; cases e
  obtain ⟨exE, SE, rpE⟩ := know S2 hc2 hd2 gc2 nc2
  have bne : b ≠ pp := fun e => by subst e; rw [hpp] at hb1; cases hb1
  have cne : c ≠ pp := fun e => by subst e; rw [hAp] at hc0; cases hc0
  have gb2 : G2 b = some (.lst vs1) := st2.ex b _ upd_same
  have stE : Stp G s σ H (upd G2 c (.lst xs2)) s2 σA H2 := by
    have t := stC.trans st2
    refine ⟨t.ex.trans exE, fun a u h1 h2 => ?_, t.own, t.dom, t.pw⟩
    obtain ⟨h3, h4⟩ := t.keep a u h1 h2
    refine ⟨h3, ?_⟩
    rw [upd_ne fun z => by
      subst z
      have h5 := stC.dom a (by rw [h1]; simp)
      exact h5 hc0]
    exact h4
  -- what the loop knows
  have gw : ∀ a, POwn s2.w a → upd G2 c (.lst xs2) a = none := fun a z => by
    rw [upd_ne fun q => nc2 (by subst q; exact .inr z)]
    exact G_pown S2.pw z
  have SF := sa_one (ds := [.list d1]) SE SE.gh eσ hp2 (fun z => np2 (.inr z)) (by rw [upd_ne cne.symm]; exact gp2) gw (.cons (.lst (exE b _ gb2) (rps_atom hd1 at1)) .nil)
  have stF : Stp G s σ H (upd G2 c (.lst xs2)) ⟨oneS s2.d.length i (.own [.list d1]), s2.w⟩ σA H2 := by
    refine ⟨stE.ex, stE.keep, fun a z => ?_, stE.dom, stE.pw⟩
    rcases z with ⟨j, ⟨es, h⟩, h2⟩ | z
    · rcases oneS_get h with ⟨rfl, _⟩ | h
      · rw [eσ] at h2
        cases h2
        exact .inr (Classical.byContradiction fun w => stA.dom _ w hpp)
      · cases h
    · exact stE.own a (.inr z)
  obtain ⟨Gm, hGm⟩ : ∃ Gm : Hp, Gm = upd (upd (fun _ => none) b (.lst vs1)) c (.lst xs2) := ⟨_, rfl⟩
  have gmb : b ≠ c → Gm b = some (.lst vs1) := fun n => by rw [hGm, upd_ne n, upd_same]
  have gmc : Gm c = some (.lst xs2) := by rw [hGm, upd_same]
  have gm0 : ∀ a, a ≠ b → a ≠ c → Gm a = none := fun a n1 n2 => by rw [hGm, upd_ne n2, upd_ne n1]
  have bc : b ≠ c := fun e => by subst e; rw [gb2] at gc2; cases gc2
  have exM : Ex Gm (upd G2 c (.lst xs2)) := fun a u h => by
    by_cases q1 : a = c
    · subst q1; rw [gmc] at h; rw [upd_same]; exact h
    · by_cases q2 : a = b
      · subst q2; rw [gmb bc] at h; rw [upd_ne q1, gb2]; exact h
      · rw [gm0 a q2 q1] at h; cases h
  have SM := sa_one (Gm := Gm) (ds := [.list d1]) SE (exM.trans SE.gh) eσ hp2 (fun z => np2 (.inr z)) (gm0 pp bne.symm cne.symm) (fun a z => by
    have := gw a z
    refine Classical.byContradiction fun w => ?_
    obtain ⟨u, e⟩ := Option.ne_none_iff_exists'.mp w
    rw [exM a u e] at this; cases this) (.cons (.lst (gmb bc) (rps_atom hd1 at1)) .nil)
  have oF := o.step stF SF
  have gF : Gf H0 Gm := fun a h => gm0 a (fun e => by subst e; exact o.dom a h hb0) (fun e => by
    subst e
    exact stC.dom a (o.dom a h) hc0)
  refine .inl ⟨c, rfl, ⟨xs2, .of hc2⟩, ?_⟩
  have k2 : FOut X.K cl W Gm ⟨oneS s2.d.length i (.own [.list d1]), s2.w⟩ σA H2 (loopF bd p d2 ⟨oneS s2.d.length i (.own [.list d1]), s2.w⟩) { nx := tS X.K cl W q D, rt := D.rt, bk := D.bk, ct := D.ct } := by
    cases zl : loopF bd p d2 ⟨oneS s2.d.length i (.own [.list d1]), s2.w⟩ with
    | brk s3 => rw [zl] at k; exact k.elim
    | cnt s3 => rw [zl] at k; exact k.elim
    | ret r s3 => rw [zl] at k; exact k.elim
    | err x s3 => rw [zl] at k; exact k.elim
    | stuck => rw [zl] at k; exact k.elim
    | next s3 =>
      rw [zl] at k
      intro G3 σ3 H3 st3 S3
      refine ⟨G3, s3, S3, ?_⟩
      dsimp only at k
      cases zq : q s3 with
      | brk s3 => rw [zq] at k; exact k.elim
      | cnt s3 => rw [zq] at k; exact k.elim
      | next s3 => rw [zq] at k; exact k.elim
      | err x s3 => rw [zq] at k; exact k.elim
      | stuck => rw [zq] at k; exact k.elim
      | ret r s4 =>
        rw [zq] at k
        cases r with
        | val d => exact k.elim
        | raw d => exact k.elim
        | ob d => exact k.elim
        | slot d => exact k.elim
        | new ds =>
          intro v G4 σ4 H4 st4 S4 rr
          have st34 := st3.trans st4
          obtain ⟨G5, st5, S5, ex5, eq5⟩ := restart SF SM exM st34 S4
          have dm : Dom H H3 := fun a h => st3.dom a (stF.dom a h)
          have o4 := oF.step st5 S5
          have g4 := gF.step oF st34 S4
          have dr := deepR_of (v := v) (r := .new ds) g4 o4 S4 (fun a h => st3.dom a (oF.dom a h)) rr (by intro ds e; cases e) (by intro i ds e; cases e)
          refine k v G5 σ4 H4 (stF.trans st5) S5 ?_ dr
          obtain ⟨a, xs, rfl, ha, hd, ga, h3, na⟩ := rr
          refine ⟨a, xs, rfl, ha, dps_mono ex5 _ _ hd, (eq5 a (Classical.byContradiction fun w => st3.dom a w h3)).trans ga, dm.none h3, na⟩
  have hJ : ItOk X.K (Itl X.K c) d2 Gm := it_list gmc (rps_atom hd2 at2) fun G' s' σ' H' ex' S' => S'.gh _ _ (ex' _ _ gmc)
  refine ⟨fun j m σ5 H5 => ∃ G5 s5, SA X.K G5 s5 σ5 H5 ∧ Ex Gm G5 ∧ m = d2.length - j ∧ j ≤ d2.length ∧ FOut X.K cl W G5 s5 σ5 H5 (loopF bd p (d2.drop j) s5) _, ⟨d2.length, Gm, _, SM, Ex.refl Gm, by simp, Nat.zero_le _, by simpa using k2⟩, ?_⟩
  rintro j m σ5 H5 ⟨G5, s5, S5, ex5, rfl, hj, k5⟩
  obtain ⟨j1, j2⟩ := hJ G5 s5 σ5 H5 ex5 S5 j
  by_cases hl : j < d2.length
  · obtain ⟨go, yl⟩ := j1 d2[j] (List.getElem?_eq_getElem hl)
    rw [List.drop_eq_getElem_cons hl] at k5
    refine .inr ⟨go, fun σ6 H6 => ∃ G6 s6, SA X.K G6 s6 σ6 H6 ∧ Ex Gm G6 ∧ FOut X.K cl W G6 s6 σ6 H6 (loopF bd p (d2.drop (j + 1)) s6) _, fun σ6 H6 ⟨G6, s6, S6, ex6, k6⟩ => ⟨d2.length - (j + 1), by omega, G6, s6, S6, ex6, rfl, hl, k6⟩, fun x H6 y => ?_⟩
    obtain ⟨G6, st6, S6, rp⟩ := yl x H6 y
    unfold loopF at k5
    cases q : bd d2[j] s5 with
    | none => rw [q] at k5; exact k5.elim
    | some s7 =>
      rw [q] at k5
      refine ho x d2[j] G6 s5 σ5 H6 s7 _ S6 rp q fun σ7 l7 n7 m7 w7 st7 S7 => ⟨G6, s7, S7, ?_⟩
      have st67 := st6.trans st7
      have k5 := fout_shift st67 k5
      have ex7 := ex5.trans st67.ex
      dsimp only at k5 ⊢
      cases z : p s7 with
      | next s8 => rw [z] at k5; exact fun G8 σ8 H8 st8 S8 => ⟨G8, s8, S8, ex7.trans st8.ex, fout_shift st8 k5⟩
      | cnt s8 => rw [z] at k5; exact fun G8 σ8 H8 st8 S8 => ⟨G8, s8, S8, ex7.trans st8.ex, fout_shift st8 k5⟩
      | brk s8 => rw [z] at k5; exact fun G8 σ8 H8 st8 S8 => k5 G8 σ8 H8 st8 S8
      | ret r s8 => rw [z] at k5; exact k5
      | err x s8 => rw [z] at k5; exact k5
      | stuck => rw [z] at k5; exact k5
  · have e : j = d2.length := by omega
    subst e
    rw [List.drop_length] at k5
    exact .inl ⟨j2 (Nat.le_refl _), k5 G5 σ5 H5 Stp.refl S5⟩
end
end DL

/-! DL30: a list of own lists, at a slot -/
noncomputable section
namespace DL
open PySem L2 PyProof.Rows
open Evl (Ex)
def E0 : Hp := fun _ => none
theorem rp0_ref {K : PySem.W.Frag} {b : Addr} {d : PyData} (h : Rp K E0 (.ref b) d) (a : atomD d = true) : False := by
  cases d <;> simp [atomD] at a <;> cases h
theorem rps0_ref {K : PySem.W.Frag} {vs : List V} {es : List PyData} {m : Nat} {b : Addr} (h : RpAll K E0 vs es) (a : es.all atomD = true) (e : vs[m]? = some (.ref b)) : False := by
  obtain ⟨d, e2, rr⟩ := dps_get h e
  exact rp0_ref rr (List.all_eq_true.mp a d (List.mem_of_getElem? e2))
theorem rp0_fun {K : PySem.W.Frag} {G : Hp} {v : V} {d e : PyData} (h : Rp K G v d) (h2 : Rp K G v e) (a : atomD d = true) (a2 : atomD e = true) : d = e := by
  cases d <;> simp [atomD] at a <;> cases h <;> cases h2 <;> first | rfl | simp [atomD] at a2
theorem rps0_fun {K : PySem.W.Frag} {G : Hp} : ∀ {vs : List V} {ds es : List PyData}, RpAll K G vs ds → RpAll K G vs es → ds.all atomD = true → es.all atomD = true → ds = es
  | [], ds, es, h, h2, _, _ => by cases h; cases h2; rfl
  | v :: vs, _, _, .cons h t, .cons h2 t2, a, a2 => by
    simp at a a2
    rw [rp0_fun h h2 a.1 a2.1, rps0_fun t t2 (by simpa using a.2) (by simpa using a2.2)]
/-- the addresses of the nest -/
def nestP (a : Addr) (xs : List V) (ds : List PyData) (x : Addr) : Prop := x = a ∨ ∃ (i : Nat) (es : List PyData), ds[i]? = some (.list es) ∧ xs[i]? = some (.ref x)
def nvw (ds : List PyData) (L : Bool) : PyData := if L = true then .list ds else .tuple ds
def nho (xs : List V) (L : Bool) : HO := if L = true then .lst xs else .tup xs
structure NA (K : PySem.W.Frag) (j : Nat) (Gb : Hp) (sb : DSt) (σb : L2.St) (Hb G : Hp) (s : DSt) (σ : L2.St) (H : Hp) (a : Addr) (xs : List V) (ds : List PyData) (L : Bool) : Prop where
  sa : SA K G (putS j .no s) σ H
  stp : Stp Gb sb σb Hb G (putS j .no s) σ H
  jl : j < s.d.length
  ej : σ[j]? = some (some (.ref a))
  one : OneIn ds xs
  len : xs.length = ds.length
  el : ∀ (i : Nat) es, ds[i]? = some (.list es) → es.all atomD = true ∧ ∃ b vs, xs[i]? = some (.ref b) ∧ H b = some (.lst vs) ∧ RpAll K E0 vs es ∧ G b = none ∧ ¬ Own (putS j .no s) σ b ∧ Hb b = none
  at' : ∀ (i : Nat) d, ds[i]? = some d → (∀ es, d ≠ .list es) → atomD d = true ∧ ∃ x, xs[i]? = some x ∧ Rp K E0 x d
  out : s.d[j]? = some (.val (nvw ds L)) ∧ H a = some (nho xs L) ∧ G a = none ∧ ¬ Own (putS j .no s) σ a ∧ Hb a = none
section
variable {K : PySem.W.Frag} {j : Nat} {Gb Hb G H G' H' : Hp} {sb s s' : DSt} {σb σ : L2.St} {a : Addr} {xs : List V} {ds : List PyData} {L : Bool}
theorem own_noj {x : Addr} (h : ∀ ds, s.d[j]? ≠ some (.own ds)) : Own (putS j .no s) σ x ↔ Own s σ x := by
  constructor
  · rintro (⟨i, ⟨es, e⟩, e2⟩ | z)
    · by_cases q : i = j
      · subst q
        simp only [putS, List.getElem?_set] at e
        split at e
        · split at e <;> cases e
        · rename_i z; simp at z
      · simp only [putS, List.getElem?_set_ne (Ne.symm q)] at e
        exact .inl ⟨i, ⟨es, e⟩, e2⟩
    · exact .inr z
  · rintro (⟨i, ⟨es, e⟩, e2⟩ | z)
    · have q : i ≠ j := fun q => by subst q; exact h es e
      exact .inl ⟨i, ⟨es, by simp only [putS, List.getElem?_set_ne (Ne.symm q)]; exact e⟩, e2⟩
    · exact .inr z
theorem ownAt_no {i : Nat} {x : Addr} (h : ∀ ds, s.d[j]? ≠ some (.own ds)) : OwnAt (putS j .no s) σ i x ↔ OwnAt s σ i x := by
  constructor
  · rintro ⟨⟨es, e⟩, e2⟩
    by_cases q : i = j
    · subst q
      simp only [putS, List.getElem?_set] at e
      split at e
      · split at e <;> cases e
      · rename_i z; simp at z
    · simp only [putS, List.getElem?_set_ne (Ne.symm q)] at e
      exact ⟨⟨es, e⟩, e2⟩
  · rintro ⟨⟨es, e⟩, e2⟩
    have q : i ≠ j := fun q => by subst q; exact h es e
    exact ⟨⟨es, by simp only [putS, List.getElem?_set_ne (Ne.symm q)]; exact e⟩, e2⟩
theorem NA.sj (N : NA K j Gb sb σb Hb G s σ H a xs ds L) : s.d[j]? = some (.val (nvw ds L)) := N.out.1
theorem NA.noj (N : NA K j Gb sb σb Hb G s σ H a xs ds L) : ∀ ds, s.d[j]? ≠ some (.own ds) := fun es e => by rw [N.sj] at e; cases e
theorem NA.ne (N : NA K j Gb sb σb Hb G s σ H a xs ds L) {x : Addr} (h : nestP a xs ds x) : G x = none ∧ ¬ Own (putS j .no s) σ x ∧ Hb x = none ∧ ∃ o, H x = some o := by
  rcases h with rfl | ⟨i, es, e1, e2⟩
  · obtain ⟨_, h1, h2, h3, h4⟩ := N.out
    exact ⟨h2, h3, h4, _, h1⟩
  · obtain ⟨_, b, vs, e3, h1, _, h2, h3, h4⟩ := N.el i es e1
    rw [e2] at e3
    cases e3
    exact ⟨h2, h3, h4, _, h1⟩
/-- what is known while it is looked at -/
def viewG (a : Addr) (xs : List V) (ds : List PyData) (G H : Hp) : Hp := fun x => @ite _ (nestP a xs ds x) (Classical.propDecidable _) (H x) (G x)
theorem view_in {x : Addr} (h : nestP a xs ds x) : viewG a xs ds G H x = H x := by unfold viewG; rw [if_pos h]
theorem view_out {x : Addr} (h : ¬ nestP a xs ds x) : viewG a xs ds G H x = G x := by unfold viewG; rw [if_neg h]
theorem NA.exv (N : NA K j Gb sb σb Hb G s σ H a xs ds L) : Ex G (viewG a xs ds G H) := fun x o e => by
  by_cases h : nestP a xs ds x
  · rw [(N.ne h).1] at e; cases e
  · rw [view_out h]; exact e
theorem rps_of_get {G : Hp} : ∀ {xs : List V} {ds : List PyData}, xs.length = ds.length → (∀ (i : Nat) x d, xs[i]? = some x → ds[i]? = some d → Rp K G x d) → RpAll K G xs ds
  | [], [], _, _ => .nil
  | [], _ :: _, h, _ => by simp at h
  | _ :: _, [], h, _ => by simp at h
  | x :: xs, d :: ds, h, f => .cons (f 0 x d rfl rfl) (rps_of_get (by simpa using h) fun i x d e1 e2 => f (i + 1) x d (by simpa using e1) (by simpa using e2))
theorem NA.rpv (N : NA K j Gb sb σb Hb G s σ H a xs ds L) : RpAll K (viewG a xs ds G H) xs ds := by
  refine rps_of_get N.len fun i x d e1 e2 => ?_
  by_cases q : ∃ es, d = .list es
  · obtain ⟨es, rfl⟩ := q
    obtain ⟨at1, b, vs, e3, h1, h2, _⟩ := N.el i es e2
    rw [e1] at e3
    cases e3
    exact .lst (by rw [view_in (.inr ⟨i, es, e2, e1⟩)]; exact h1) (rps_atom h2 at1)
  · obtain ⟨at1, y, e3, rr⟩ := N.at' i d e2 fun es z => q ⟨es, z⟩
    rw [e1] at e3
    cases e3
    exact rp_atom rr at1
theorem NA.view (N : NA K j Gb sb σb Hb G s σ H a xs ds L) : SA K (viewG a xs ds G H) s σ H := by
  have S := N.sa
  have hx := N.exv
  refine ⟨by have := S.len; simpa [putS] using this, fun x o e => ?_, fun i sl h => ?_, fun i k x h1 h2 => S.inj i k x ((ownAt_no N.noj).mpr h1) ((ownAt_no N.noj).mpr h2), fun i x h => ?_, ?_, fun i x h => S.pne i x ((ownAt_no N.noj).mpr h)⟩
  · by_cases h : nestP a xs ds x
    · rw [view_in h] at e; exact e
    · rw [view_out h] at e; exact S.gh x o e
  · by_cases q : i = j
    · subst q
      rw [N.sj] at h
      cases h
      refine ⟨.ref a, by rw [N.ej] <;> rfl, ?_⟩
      obtain ⟨_, h1, _⟩ := N.out
      unfold nvw
      unfold nho at h1
      by_cases q : L = true
      · rw [if_pos q] at h1 ⊢
        exact .lst (by rw [view_in (.inl rfl)]; exact h1) N.rpv
      · rw [if_neg q] at h1 ⊢
        exact .tup (.inl (.inl (by rw [view_in (.inl rfl)]; exact h1))) N.rpv
    · have h' : (putS j .no s).d[i]? = some sl := by simp only [putS, List.getElem?_set_ne (Ne.symm q)]; exact h
      have q := S.slot i sl h'
      cases sl with
      | no => trivial
      | val d => obtain ⟨v, e, hd⟩ := q; exact ⟨v, e, dp_mono hx _ _ hd⟩
      | raw v => exact q
      | ob o => obtain ⟨v, e, hd⟩ := q; exact ⟨v, e, ob_mono hx hd⟩
      | own es => obtain ⟨b, ys, e, hb, hh⟩ := q; exact ⟨b, ys, e, hb, dps_mono hx _ _ hh⟩
  · have h := (ownAt_no N.noj).mpr h
    rw [view_out fun z => (N.ne z).2.1 (.inl ⟨i, h⟩)]
    exact S.ownG i x h
  · have q : PwOk G s.w H := S.pw
    have n : ∀ x, POwn s.w x → ¬ nestP a xs ds x := fun x h z => (N.ne z).2.1 (.inr h)
    unfold PwOk at q ⊢
    split
    · trivial
    · rename_i pa ca cells t e
      rw [e] at q n
      exact ⟨q.1, q.2.1, q.2.2.1, by rw [view_out (n pa (.inl rfl))]; exact q.2.2.2.1, by rw [view_out (n ca (.inr rfl))]; exact q.2.2.2.2⟩
/-- own lists are flat -/
def flatS : List Sl → Prop
  | [] => True
  | .own ds :: r => ds.all atomD = true ∧ flatS r
  | _ :: r => flatS r
instance instDecFlat (d : List Sl) : Decidable (flatS d) := Classical.propDecidable _
theorem flatS_get : ∀ {d : List Sl} {i : Nat} {ds : List PyData}, flatS d → d[i]? = some (.own ds) → ds.all atomD = true
  | [], i, ds, _, e => by simp at e
  | x :: r, 0, ds, h, e => by
    simp at e
    subst e
    exact h.1
  | x :: r, i + 1, ds, h, e => by
    have e : r[i]? = some (.own ds) := by simpa using e
    cases x with
    | own es => exact flatS_get h.2 e
    | no => exact flatS_get (d := r) h e
    | val d => exact flatS_get (d := r) h e
    | raw d => exact flatS_get (d := r) h e
    | ob d => exact flatS_get (d := r) h e
theorem flat_put {d : List Sl} {x : PyData} : ∀ {j : Nat}, flatS d → flatS (d.set j (.val x)) := by
  induction d with
  | nil => intro j h; simpa using h
  | cons y r ih =>
    intro j h
    have hr : flatS r := by
      cases y with
      | own es => exact h.2
      | no => exact h
      | val d => exact h
      | raw d => exact h
      | ob d => exact h
    cases j with
    | zero => exact hr
    | succ j =>
      simp only [List.set_cons_succ]
      cases y with
      | own es => exact ⟨h.1, ih hr⟩
      | no => exact ih (j := j) hr
      | val d => exact ih (j := j) hr
      | raw d => exact ih (j := j) hr
      | ob d => exact ih (j := j) hr
/-- nothing has changed in the slots, and own lists are flat -/
def sameV (s s' : DSt) : Prop := s'.d = s.d ∧ flatS s.d
instance (s s' : DSt) : Decidable (sameV s s') := Classical.propDecidable _
/-- behind the look -/
def thawG (a : Addr) (xs : List V) (ds : List PyData) (G : Hp) : Hp := fun x => @ite _ (nestP a xs ds x) (Classical.propDecidable _) none (G x)
theorem thaw_in {x : Addr} (h : nestP a xs ds x) : thawG a xs ds G x = none := by unfold thawG; rw [if_pos h]
theorem thaw_out {x : Addr} (h : ¬ nestP a xs ds x) : thawG a xs ds G x = G x := by unfold thawG; rw [if_neg h]
theorem NA.thaw (N : NA K j Gb sb σb Hb G s σ H a xs ds L) (st : Stp (viewG a xs ds G H) s σ H G' s' σ H') (S' : SA K G' s' σ H') (e : sameV s s') : NA K j Gb sb σb Hb (thawG a xs ds G') s' σ H' a xs ds L := by
  obtain ⟨ed, fl⟩ := e
  have exT : Ex G (thawG a xs ds G') := fun x o e => by
    have hn : ¬ nestP a xs ds x := fun z => by rw [(N.ne z).1] at e; cases e
    rw [thaw_out hn]
    exact st.ex x o (N.exv x o e)
  have exT2 : Ex (thawG a xs ds G') G' := fun x o e => by
    by_cases h : nestP a xs ds x
    · rw [thaw_in h] at e; cases e
    · rwa [thaw_out h] at e
  have noj : ∀ ds, s'.d[j]? ≠ some (.own ds) := by rw [ed]; exact N.noj
  have tn : ∀ x, G' x = none → thawG a xs ds G' x = none := fun x h => by
    by_cases q : nestP a xs ds x
    · exact thaw_in q
    · rw [thaw_out q]; exact h
  have nown : ∀ x, nestP a xs ds x → ¬ Own (putS j .no s') σ x := fun x z w => by
    rcases st.own x ((own_noj noj).mp w) with q | q
    · exact (N.ne z).2.1 ((own_noj N.noj).mpr q)
    · obtain ⟨ys, e⟩ := (N.ne z).2.2.2
      rw [q] at e; cases e
  have keepN : ∀ x o, nestP a xs ds x → H x = some o → H' x = some o := fun x o z e => (st.keep x o e fun w => (N.ne z).2.1 ((own_noj N.noj).mpr w)).1
  refine ⟨⟨?_, fun x o e => S'.gh x o (exT2 x o e), fun i sl h => ?_, fun i k x h1 h2 => S'.inj i k x ((ownAt_no noj).mp h1) ((ownAt_no noj).mp h2), fun i x h => tn x (S'.ownG i x ((ownAt_no noj).mp h)), ?_, fun i x h => S'.pne i x ((ownAt_no noj).mp h)⟩, ⟨N.stp.ex.trans exT, fun x o h1 h2 => ?_, fun x z => ?_, fun x h => st.dom x (N.stp.dom x h), fun x h => st.pw x (N.stp.pw x h)⟩, by rw [ed]; exact N.jl, N.ej, N.one, N.len, fun i es h => ?_, N.at', ?_⟩
  · have := S'.len; simpa [putS] using this
  · by_cases q : i = j
    · subst q
      simp only [putS, List.getElem?_set] at h
      split at h
      · split at h
        · cases h; trivial
        · cases h
      · rename_i z; simp at z
    · simp only [putS, List.getElem?_set_ne (Ne.symm q)] at h
      have h0 : s.d[i]? = some sl := by rw [← ed]; exact h
      have z := N.sa.slot i sl (by simp only [putS, List.getElem?_set_ne (Ne.symm q)]; exact h0)
      have z' := S'.slot i sl h
      cases sl with
      | no => trivial
      | val d => obtain ⟨v, e, hd⟩ := z; exact ⟨v, e, dp_mono exT _ _ hd⟩
      | raw v => exact z
      | ob o => obtain ⟨v, e, hd⟩ := z; exact ⟨v, e, ob_mono exT hd⟩
      | own es => obtain ⟨b, ys, e, hb, hh⟩ := z'; exact ⟨b, ys, e, hb, rps_atom hh (flatS_get fl h0)⟩
  · have q : PwOk G' s'.w H' := S'.pw
    show PwOk _ s'.w H'
    unfold PwOk at q ⊢
    split
    · trivial
    · rename_i pa ca cells t e
      rw [e] at q
      exact ⟨q.1, q.2.1, q.2.2.1, tn _ q.2.2.2.1, tn _ q.2.2.2.2⟩
  · obtain ⟨h3, h4⟩ := N.stp.keep x o h1 h2
    have hn : ¬ nestP a xs ds x := fun z => by rw [(N.ne z).2.2.1] at h1; cases h1
    have no : ¬ Own s σ x := fun z => by
      rcases N.stp.own x ((own_noj N.noj).mpr z) with q | q
      · exact h2 q
      · rw [q] at h1; cases h1
    obtain ⟨h5, h6⟩ := st.keep x o h3 no
    exact ⟨h5, by rw [thaw_out hn, h6, view_out hn]; exact h4⟩
  · rcases st.own x ((own_noj noj).mp z) with q | q
    · exact N.stp.own x ((own_noj N.noj).mpr q)
    · exact .inr (Classical.byContradiction fun w => N.stp.dom x w q)
  · obtain ⟨at1, b, vs, e3, h1, h2, _, _, h5⟩ := N.el i es h
    have hP : nestP a xs ds b := .inr ⟨i, es, h, e3⟩
    exact ⟨at1, b, vs, e3, keepN b _ hP h1, h2, thaw_in hP, nown b hP, h5⟩
  · have ho := N.out
    have hP : nestP a xs ds a := .inl rfl
    exact ⟨by rw [ed]; exact ho.1, keepN a _ hP ho.2.1, thaw_in hP, nown a hP, ho.2.2.2.2⟩
/-- one of the inner lists is longer -/
theorem NA.app (N : NA K j Gb sb σb Hb G s σ H a xs ds L) {m : Nat} {es : List PyData} {d : PyData} {b : Addr} {vs : List V} {v : V} (e1 : ds[m]? = some (.list es)) (e2 : xs[m]? = some (.ref b)) (hb : H b = some (.lst vs)) (hd : Rp K E0 v d) (ad : atomD d = true) :
    NA K j Gb sb σb Hb G (putS j (.val (nvw (ds.set m (.list (es ++ [d]))) L)) s) σ (upd H b (.lst (vs ++ [v]))) a xs (ds.set m (.list (es ++ [d]))) L := by
  have hP : nestP a xs ds b := .inr ⟨m, es, e1, e2⟩
  obtain ⟨gb, nb, hbb, _⟩ := N.ne hP
  have pp : ∀ x, putS j .no (putS j x s) = putS j .no s := fun x => by simp [putS]
  have ml : m < ds.length := (List.getElem?_eq_some_iff.mp e1).1
  obtain ⟨at0, b0, vs0, e3, hb0, rr0, _⟩ := N.el m es e1
  rw [e2] at e3
  cases e3
  rw [hb] at hb0
  cases hb0
  have hi : ∀ (i : Nat) d', (ds.set m (PyData.list (es ++ [d])))[i]? = some d' → (i = m ∧ d' = PyData.list (es ++ [d])) ∨ (i ≠ m ∧ ds[i]? = some d') := fun i d' h => by
    by_cases q : i = m
    · subst q
      rw [List.getElem?_set_self ml] at h
      cases h; exact .inl ⟨rfl, rfl⟩
    · rw [List.getElem?_set_ne (Ne.symm q)] at h
      exact .inr ⟨q, h⟩
  refine ⟨by rw [pp]; exact sa_write N.sa gb nb, ⟨N.stp.ex, fun x o h1 h2 => ?_, by rw [pp]; exact N.stp.own, fun x h => ?_, N.stp.pw⟩, by simpa [putS] using N.jl, N.ej, fun i k c es1 es2 h1 h2 h3 h4 => ?_, by rw [N.len]; simp, fun i es1 h => ?_, fun i d1 h n => ?_, ?_⟩
  · obtain ⟨h3, h4⟩ := N.stp.keep x o h1 h2
    exact ⟨by rw [upd_ne fun z => by subst z; rw [hbb] at h1; cases h1]; exact h3, h4⟩
  · by_cases z : x = b
    · subst z; rw [upd_same]; simp
    · rw [upd_ne z]; exact N.stp.dom x h
  · have g : ∀ i es1, (ds.set m (PyData.list (es ++ [d])))[i]? = some (PyData.list es1) → ∃ es', ds[i]? = some (PyData.list es') := fun i es1 h => by
      rcases hi i _ h with ⟨rfl, _⟩ | ⟨_, h⟩
      · exact ⟨_, e1⟩
      · exact ⟨_, h⟩
    obtain ⟨_, g1⟩ := g i es1 h1
    obtain ⟨_, g2⟩ := g k es2 h2
    exact N.one i k c _ _ g1 g2 h3 h4
  · rcases hi i _ h with ⟨rfl, e⟩ | ⟨q, h⟩
    · cases e
      refine ⟨by simp only [List.all_append, at0, Bool.true_and]; simp [ad], b, vs ++ [v], e2, upd_same, dps_app rr0 (.cons hd .nil), gb, by rw [pp]; exact nb, hbb⟩
    · obtain ⟨at1, c, ws, e4, h1, h2, h3, h4, h5⟩ := N.el i es1 h
      refine ⟨at1, c, ws, e4, ?_, h2, h3, by rw [pp]; exact h4, h5⟩
      rw [upd_ne fun z => q (by subst z; exact N.one i m c _ _ h e1 e4 e2)]
      exact h1
  · rcases hi i _ h with ⟨rfl, e⟩ | ⟨q, h⟩
    · subst e; exact absurd rfl (n _)
    · exact N.at' i d1 h n
  · obtain ⟨_, h1, h2, h3, h4⟩ := N.out
    have hset : ∀ x, (putS j x s).d[j]? = some x := fun x => by simp only [putS]; exact List.getElem?_set_self N.jl
    refine ⟨by rw [hset], ?_, h2, by rw [pp]; exact h3, h4⟩
    rw [upd_ne fun z => by
      subst z
      rw [hb] at h1
      unfold nho at h1
      split at h1
      · cases h1
        exact rps0_ref rr0 at0 e2
      · cases h1]
    exact h1
/-- another slot is forgotten -/
theorem sa_no {i : Nat} (S : SA K G s σ H) : SA K G (putS i .no s) σ H ∧ ∀ x, Own (putS i .no s) σ x → Own s σ x := by
  have ho : ∀ k x, OwnAt (putS i .no s) σ k x → OwnAt s σ k x := by
    rintro k x ⟨⟨es, e⟩, e2⟩
    by_cases q : k = i
    · subst q
      simp only [putS, List.getElem?_set] at e
      split at e
      · split at e <;> cases e
      · rename_i z; simp at z
    · simp only [putS, List.getElem?_set_ne (Ne.symm q)] at e
      exact ⟨⟨es, e⟩, e2⟩
  refine ⟨⟨by simp [putS, S.len], S.gh, fun k sl h => ?_, fun k l x h1 h2 => S.inj k l x (ho k x h1) (ho l x h2), fun k x h => S.ownG k x (ho k x h), S.pw, fun k x h => S.pne k x (ho k x h)⟩, fun x z => z.imp (fun ⟨k, z⟩ => ⟨k, ho k x z⟩) id⟩
  by_cases q : k = i
  · subst q
    simp only [putS, List.getElem?_set] at h
    split at h
    · split at h
      · cases h; trivial
      · cases h
    · rename_i z; simp at z
  · simp only [putS, List.getElem?_set_ne (Ne.symm q)] at h
    exact S.slot k sl h
theorem NA.blank (N : NA K j Gb sb σb Hb G s σ H a xs ds L) {i : Nat} (ij : i ≠ j) : NA K j Gb sb σb Hb G (putS i .no s) σ H a xs ds L := by
  have pp : putS j .no (putS i .no s) = putS i .no (putS j .no s) := by simp only [putS]; rw [List.set_comm _ _ ij]
  obtain ⟨S, so⟩ := sa_no (i := i) N.sa
  have hj : (putS i .no s).d[j]? = s.d[j]? := by simp only [putS]; exact List.getElem?_set_ne ij
  refine ⟨by rw [pp]; exact S, by rw [pp]; exact ⟨N.stp.ex, N.stp.keep, fun x z => N.stp.own x (so x z), N.stp.dom, N.stp.pw⟩, by simpa [putS] using N.jl, N.ej, N.one, N.len, fun k es h => ?_, N.at', ?_⟩
  · obtain ⟨at1, b, vs, e3, h1, h2, h3, h4, h5⟩ := N.el k es h
    exact ⟨at1, b, vs, e3, h1, h2, h3, fun z => h4 (by rw [pp] at z; exact so b z), h5⟩
  · have ho := N.out
    rw [hj]
    exact ⟨ho.1, ho.2.1, ho.2.2.1, fun z => ho.2.2.2.1 (by rw [pp] at z; exact so a z), ho.2.2.2.2⟩
/-- another slot takes what is flat -/
theorem NA.put (N : NA K j Gb sb σb Hb G s σ H a xs ds L) {i : Nat} {x : Sl} {v : V} (ij : i ≠ j) (hi : i < s.d.length) (hx : SlOk K G H (some v) x) (hx2 : ∀ es, x ≠ .own es) : NA K j Gb sb σb Hb G (putS i x s) (σ.set i (some v)) H a xs ds L := by
  have pp : putS j .no (putS i x s) = putS i x (putS j .no s) := by simp only [putS]; rw [List.set_comm _ _ ij]
  have hi' : i < (putS j .no s).d.length := by simpa [putS] using hi
  have S := put_ok (x := x) (v := v) N.sa hi' hx (fun es _ z => absurd z (hx2 es))
  have T := put_stp (x := x) (v := v) N.sa N.stp hi' (fun es _ z => absurd z (hx2 es))
  have nown : ∀ y, ¬ Own (putS j .no s) σ y → ¬ Own (putS j .no (putS i x s)) (σ.set i (some v)) y := fun y n z => by
    rw [pp] at z
    rcases z with ⟨k, z⟩ | z
    · rcases own_put hi' N.sa.len z with ⟨_, ⟨es, e⟩, _⟩ | ⟨_, z⟩
      · exact hx2 es e
      · exact n (.inl ⟨k, z⟩)
    · exact n (.inr z)
  have hj : (putS i x s).d[j]? = s.d[j]? := by simp only [putS]; exact List.getElem?_set_ne ij
  refine ⟨by rw [pp]; exact S, by rw [pp]; exact T, by simpa [putS] using N.jl, by rw [List.getElem?_set_ne ij]; exact N.ej, N.one, N.len, fun k es h => ?_, N.at', ?_⟩
  · obtain ⟨at1, b, vs, e3, h1, h2, h3, h4, h5⟩ := N.el k es h
    exact ⟨at1, b, vs, e3, h1, h2, h3, nown b h4, h5⟩
  · have ho := N.out
    rw [hj]
    exact ⟨ho.1, ho.2.1, ho.2.2.1, nown a ho.2.2.2.1, ho.2.2.2.2⟩
end
end DL

/-! DL31: statements while a slot holds a list of own lists -/
noncomputable section
namespace DL
open PySem L2 PyProof.Rows
open Evl (Ex)
def NAx (K : PySem.W.Frag) (j : Nat) (Gb : Hp) (sb : DSt) (σb : L2.St) (Hb G : Hp) (s : DSt) (σ : L2.St) (H : Hp) : Prop := ∃ a xs ds L, NA K j Gb sb σb Hb G s σ H a xs ds L
def NOut (K : PySem.W.Frag) (j : Nat) (Gb : Hp) (sb : DSt) (σb : L2.St) (Hb : Hp) (fl : Flow) (D : Ends) : Prop := match fl with
  | .next s' => ∀ G' σ' H', NAx K j Gb sb σb Hb G' s' σ' H' → D.nx σ' H'
  | .brk s' => ∀ G' σ' H', NAx K j Gb sb σb Hb G' s' σ' H' → D.bk σ' H'
  | .cnt s' => ∀ G' σ' H', NAx K j Gb sb σb Hb G' s' σ' H' → D.ct σ' H'
  | .ret (.val d) s' => atomD d = true ∧ ∀ v G' σ' H', Stp Gb sb σb Hb G' s' σ' H' → SA K G' s' σ' H' → Rp K E0 v d → D.rt v H'
  | _ => False
def tN (K : PySem.W.Frag) (j : Nat) (f : DSt → Flow) : TS := fun D σ H => ∃ Gb sb σb Hb G s, NAx K j Gb sb σb Hb G s σ H ∧ NOut K j Gb sb σb Hb (f s) D
section
variable {K : PySem.W.Frag} {j : Nat} {Gb Hb G H G' H' : Hp} {sb s s' : DSt} {σb σ : L2.St} {a : Addr} {xs : List V} {ds : List PyData} {L : Bool}
theorem NA.stpv (N : NA K j Gb sb σb Hb G s σ H a xs ds L) : Stp Gb sb σb Hb (viewG a xs ds G H) s σ H := by
  refine ⟨N.stp.ex.trans N.exv, fun x o h1 h2 => ?_, fun x z => N.stp.own x ((own_noj N.noj).mpr z), N.stp.dom, N.stp.pw⟩
  obtain ⟨h3, h4⟩ := N.stp.keep x o h1 h2
  exact ⟨h3, by rw [view_out fun z => by rw [(N.ne z).2.2.1] at h1; cases h1]; exact h4⟩
end
section
variable {X : Cx} {cl : String → Addr} {W : WX} {e a b c x y : Expr} {es : List Expr} {f g : M R} {fs : M (List R)} {pos : Pos} {st : Stmt} {rest body : List Stmt} {p q : DSt → Flow} {j : Nat}
theorem n_nil : PSs X [] (tN X.K j fnext) := pss_imp pss_nil fun D σ H ⟨Gb, sb, σb, Hb, G, s, N, h⟩ => h G σ H N
theorem n_one (h : PS X st (tN X.K j p)) : PSs X [st] (tN X.K j p) := pss_one h
theorem n_cons (h1 : PS X st (tN X.K j p)) (h2 : PSs X rest (tN X.K j q)) : PSs X (st :: rest) (tN X.K j (fseq p q)) := by
  refine pss_imp (pss_cons h1 h2) fun D σ H ⟨Gb, sb, σb, Hb, G, s, N, h⟩ => ⟨Gb, sb, σb, Hb, G, s, N, ?_⟩
  unfold fseq at h
  cases z : p s with
  | next s' => rw [z] at h; exact fun G' σ' H' N' => ⟨Gb, sb, σb, Hb, G', s', N', h⟩
  | brk s' => rw [z] at h; exact h
  | cnt s' => rw [z] at h; exact h
  | ret r s' => rw [z] at h; cases r <;> exact h
  | err x s' => rw [z] at h; exact h
  | stuck => rw [z] at h; exact h
/-- if TEST: return -/
def vwIf (t : M Bool) (p : DSt → Flow) : DSt → Flow := fun s => match t s with
  | .ok b s1 => if b then (match p s1 with
    | .ret (.val d) s2 => if atomD d = true then .ret (.val d) s2 else .stuck
    | _ => .stuck) else if sameV s s1 then .next s1 else .stuck
  | _ => .stuck
theorem n_if {t : M Bool} {as : List Stmt} (hc : DT X cl W c t) (ha : DSs X cl W as p) : PS X (.If c as [] pos) (tN X.K j (vwIf t p)) := by
  refine ps_imp (ps_if hc ha pss_nil) fun D σ H ⟨Gb, sb, σb, Hb, G, s, ⟨a, xs, ds, L, N⟩, h⟩ => ?_
  refine ⟨_, s, N.view, ?_⟩
  unfold vwIf at h
  cases z : t s with
  | err x s1 => rw [z] at h; exact h.elim
  | stuck => rw [z] at h; exact h.elim
  | ok b s1 =>
    rw [z] at h
    intro G1 H1 st1 S1
    cases b with
    | true =>
      refine ⟨G1, s1, S1, ?_⟩
      dsimp only at h
      rw [if_pos rfl] at h
      cases zp : p s1 with
      | next s' => rw [zp] at h; exact h.elim
      | brk s' => rw [zp] at h; exact h.elim
      | cnt s' => rw [zp] at h; exact h.elim
      | err x s' => rw [zp] at h; exact h.elim
      | stuck => rw [zp] at h; exact h.elim
      | ret r s2 =>
        rw [zp] at h
        cases r with
        | new d => exact h.elim
        | raw d => exact h.elim
        | ob d => exact h.elim
        | slot d => exact h.elim
        | val d =>
          dsimp only at h
          split at h
          · obtain ⟨ad, h⟩ := h
            exact fun v G2 σ2 H2 st2 S2 rr => h v G2 σ2 H2 ((N.stpv.trans st1).trans st2) S2 (rp_atom rr ad)
          · exact h.elim
    | false =>
      dsimp only at h
      rw [if_neg (by decide)] at h
      split at h
      · rename_i hv
        exact h _ σ H1 ⟨a, xs, ds, L, N.thaw st1 S1 hv⟩
      · exact h.elim
/-- for i in range(..) -/
def nForR (i : Nat) (fs : M (List R)) (p : DSt → Flow) : DSt → Flow := fun s => match fs s with
  | .ok [r] s1 => (match look r s1 with
    | some (.int m) => if inB m ∧ sameV s s1 then loopF (bName i) p (rangeD 0 m.toNat) s1 else .stuck
    | _ => .stuck)
  | _ => .stuck
theorem n_for {i : Nat} {z : Str} {ip rp pp : Pos} (ij : i ≠ j) (hp : PassesOwn (model X.prog X.w) X.A X.env X.xe) (hc : X.calm = true) (hg : Gl X "range") (hm : X.mg "range" = none) (ha : DA X cl W [a] fs) (hN : X.N.Nodup) (hi : X.N[i]? = some z) (hx : Loc X.env.scope z) (hb : PSs X body (tN X.K j p))
    (hf : X.fn z = true ∨ X.env.scope.names.lookup z = some .local := by first | exact .inl rfl | exact .inr rfl | assumption) (hs : starEach [a] X.env = [(false, eval a X.env)] := by rfl)
    (hs2 : ∀ x, foldedSetIterable (.Call (.Name "range" pp) [a] [] rp) X.env x = pure x := by intro _; rfl) :
    PS X (.For (.Name z ip) (.Call (.Name "range" pp) [a] [] rp) body [] pos) (tN X.K j (nForR i fs p)) := by
  refine ps_imp (ps_for hp hc (pi_range1 hg hm ha hs) (pg_name hN hi hx hf) hb hs2) fun D σ H ⟨Gb, sb, σb, Hb, G, s, ⟨a, xs, ds, L, N⟩, h⟩ => ?_
  refine ⟨_, s, N.view, ?_⟩
  unfold nForR at h
  cases zz : fs s with
  | err x s1 => rw [zz] at h; exact h.elim
  | stuck => rw [zz] at h; exact h.elim
  | ok rs s1 =>
    rw [zz] at h
    intro G1 H1 st1 S1 vs rr
    split at h
    · rename_i r _ e
      cases e
      split at h
      · rename_i m em
        split at h
        · rename_i hbv
          obtain ⟨hB, hv⟩ := hbv
          cases rr with
          | cons r1 r2 =>
            cases r2
            obtain rfl := dq_int (look_q S1 r1 em)
            refine ⟨m, rfl, hB.1, hB.2, ?_⟩
            obtain ⟨n, hn⟩ : ∃ n, n = m.toNat := ⟨_, rfl⟩
            rw [← hn] at h ⊢
            have hl : (rangeD 0 n).length = n := by simp [rangeD]
            refine ⟨fun i' m' σ2 H2 => ∃ G2 s2, NAx X.K j Gb sb σb Hb G2 s2 σ2 H2 ∧ m' = n - i' ∧ i' ≤ n ∧ NOut X.K j Gb sb σb Hb (loopF (bName i) p ((rangeD 0 n).drop i') s2) D, ⟨n, _, s1, ⟨a, xs, ds, L, N.thaw st1 S1 hv⟩, by simp, Nat.zero_le _, by simpa using h⟩, ?_⟩
            rintro i' m' σ2 H2 ⟨G2, s2, ⟨a2, xs2, ds2, L2, N2⟩, rfl, hi', k2⟩
            by_cases hl2 : i' < n
            · have hl3 : i' < (rangeD 0 n).length := by rw [hl]; exact hl2
              rw [List.drop_eq_getElem_cons hl3] at k2
              refine .inr ⟨hl2, fun σ3 H3 => ∃ G3 s3, NAx X.K j Gb sb σb Hb G3 s3 σ3 H3 ∧ NOut X.K j Gb sb σb Hb (loopF (bName i) p ((rangeD 0 n).drop (i' + 1)) s3) D, fun σ3 H3 ⟨G3, s3, N3, k3⟩ => ⟨n - (i' + 1), by omega, G3, s3, N3, rfl, hl2, k3⟩, fun x H3 y => ?_⟩
              obtain ⟨rfl, rfl⟩ := y
              have eg : (rangeD 0 n)[i'] = .int (0 + (i' : Int)) := by simp [rangeD]
              rw [eg] at k2
              unfold loopF at k2
              unfold bName at k2
              by_cases hil : i < s2.d.length
              · rw [if_pos hil] at k2
                refine ⟨Gb, sb, σb, Hb, G2, _, ⟨a2, xs2, ds2, L2, N2.put (x := .val (.int (0 + (i' : Int)))) (v := .int (0 + (i' : Int))) ij hil ⟨_, rfl, .int _⟩ (by intro _ e; cases e)⟩, ?_⟩
                dsimp only at k2
                cases zp : p (putS i (.val (.int (0 + (i' : Int)))) s2) with
                | next s5 => rw [zp] at k2; exact fun G5 σ5 H5 N5 => ⟨G5, s5, N5, k2⟩
                | cnt s5 => rw [zp] at k2; exact fun G5 σ5 H5 N5 => ⟨G5, s5, N5, k2⟩
                | brk s5 => rw [zp] at k2; exact fun G5 σ5 H5 N5 => k2 G5 σ5 H5 N5
                | ret r s5 => rw [zp] at k2; cases r <;> exact k2
                | err x s5 => rw [zp] at k2; exact k2.elim
                | stuck => rw [zp] at k2; exact k2.elim
              · rw [if_neg hil] at k2; exact k2.elim
            · have e : i' = n := by omega
              subst e
              rw [show (rangeD 0 i').drop i' = [] from by rw [List.drop_eq_nil_iff]; omega] at k2
              exact .inl ⟨Nat.le_refl _, k2 G2 σ2 H2 ⟨a2, xs2, ds2, L2, N2⟩⟩
        · exact h.elim
      · exact h.elim
    · exact h.elim
/-- x[k].append(C) -/
def nApp (j k : Nat) (d : PyData) : DSt → Flow := fun s => match s.d[j]?, s.d[k]? with
  | some (.val (.list ds)), some (.val (.int n)) => (match ixN ds.length n with
    | some m => (match ds[m]? with
      | some (.list es) => if ltS es.length ∧ flatS s.d then .next (putS j (.val (.list (ds.set m (.list (es ++ [d]))))) s) else .stuck
      | _ => .stuck)
    | none => .stuck)
  | _, _ => .stuck
theorem n_app {k : Nat} {d : PyData} {ap cp ip : Pos} (hx : PE X x (tVar j)) (hk : PE X y (tVar k)) (hpl : PlainIx y) (ha : DE X cl W e f) (hC : ∀ s, f s = .ok (.val d) s) (ad : atomD d = true)
    (hbase : attributeBase (.Subscript x y ip) "append" X.env (eval (.Subscript x y ip) X.env) = eval (.Subscript x y ip) X.env := by rfl)
    (hfew : ((backTo cp (starEach [e] X.env)).all (fun x => !x.1) && (backToKw cp (keywordEach [] X.env)).all (fun x => x.1.isSome) && decide (([e] : List Expr).length + ([] : List Keyword).length + (if ([] : List Keyword).isEmpty then 0 else 1) < 30)) = true := by rfl)
    (hline : (ap.endLine == cp.line) = true := by rfl) (hs : starEach [e] X.env = (false, eval e X.env) :: starEach [] X.env := by rfl) (hplain : (backTo cp (starEach [] X.env)).any (·.1) = false := by rfl)
    (hsw : swapsWith (.Call (.Attribute (.Subscript x y ip) "append" ap) [e] [] cp) none pos.line X.env = pure false := by rfl) :
    PS X (.Expr (.Call (.Attribute (.Subscript x y ip) "append" ap) [e] [] cp) pos) (tN X.K j (nApp j k d)) := by
  refine ps_imp (ps_expr (pe_bm PySem.F.plainAttrs_list PySem.F.slot_list_append PySem.F.type_list_append mt_append (pe_ix ix_seq hx hk hpl) (pa_cons ha pa_nil hs) hbase hfew hline hs hplain) hsw) fun D σ H ⟨Gb, sb, σb, Hb, G, s, ⟨a, xs, ds, L, N⟩, h⟩ => ?_
  unfold nApp at h
  split at h
  rotate_left
  · exact h.elim
  rename_i ds' n e1 e2
  rw [N.sj] at e1
  have hL : L = true := by
    cases L with
    | true => rfl
    | false => cases e1
  subst hL
  cases e1
  split at h
  rotate_left
  · exact h.elim
  rename_i m em
  split at h
  rotate_left
  · exact h.elim
  rename_i es' eds
  split at h
  rotate_left
  · exact h.elim
  rename_i hlt
  obtain ⟨hlt, hfl⟩ := hlt
  obtain ⟨v, ev, rv⟩ := N.view.slot k _ e2
  cases rv
  have ek : σ[k]? = some (some (.int n)) := by
    cases z : σ[k]? with
    | none => rw [z] at ev; cases ev
    | some o => rw [z] at ev; simp at ev; rw [ev]
  obtain ⟨at1, b, vs, e3, hb, rb, _⟩ := N.el m es' eds
  have ho := N.out
  simp only [nho, if_pos] at ho
  refine ⟨.ref a, N.ej, .int n, ek, .inl ⟨a, xs, n, .ref b, rfl, rfl, .of ho.2.1, ?_, .inl ⟨rfl, _, .of hb⟩, _, s, N.view, ?_⟩⟩
  · unfold atI
    rw [N.len, em]
    exact e3
  · rw [hC]
    intro G1 H1 st1 S1 w rw'
    have N1 := N.thaw st1 S1 ⟨rfl, hfl⟩
    obtain ⟨_, b', vs', e3', hb', rb', _⟩ := N1.el m es' eds
    rw [e3] at e3'
    cases e3'
    refine ⟨b, vs', w, rfl, rfl, hb', by rw [dps_len rb']; exact hlt, h _ σ _ ⟨a, xs, _, true, N1.app eds e3 hb' (rp_atom rw' ad) ad⟩⟩
/-- for x in THE LIST: x.append(C) -/
def appAll (d : PyData) : List PyData → Option (List PyData)
  | [] => some []
  | .list es :: r => if ltS es.length then (appAll d r).map (PyData.list (es ++ [d]) :: ·) else none
  | _ :: _ => none
def nForA (j i : Nat) (d : PyData) : DSt → Flow := fun s => match s.d[j]? with
  | some (.val (.list ds)) => if i < s.d.length ∧ flatS (putS i .no s).d then (match appAll d ds with
    | some ds' => .next (putS j (.val (.list ds')) (putS i .no s))
    | none => .stuck) else .stuck
  | _ => .stuck
theorem appAll_get {d : PyData} : ∀ {ds ds' : List PyData} {m : Nat}, appAll d ds = some ds' → m < ds.length → ∃ es, ds[m]? = some (.list es) ∧ ltS es.length ∧ ds'[m]? = some (.list (es ++ [d]))
  | [], _, m, _, h => by simp at h
  | x :: r, ds', m, e, h => by
    cases x with
    | list es =>
      unfold appAll at e
      split at e
      · rename_i hl
        cases q : appAll d r with
        | none => rw [q] at e; cases e
        | some r' =>
          rw [q] at e
          cases e
          cases m with
          | zero => exact ⟨es, rfl, hl, rfl⟩
          | succ m => simpa using appAll_get (m := m) q (by simpa using h)
      · cases e
    | _ => cases e
theorem appAll_len {d : PyData} : ∀ {ds ds' : List PyData}, appAll d ds = some ds' → ds'.length = ds.length
  | [], _, e => by cases e; rfl
  | x :: r, ds', e => by
    cases x with
    | list es =>
      unfold appAll at e
      split at e
      · cases q : appAll d r with
        | none => rw [q] at e; cases e
        | some r' => rw [q] at e; cases e; simp [appAll_len q]
      · cases e
    | _ => cases e
theorem n_forA {i : Nat} {z : Str} {d : PyData} {ip ap cp xp : Pos} (ij : i ≠ j) (hp : PassesOwn (model X.prog X.w) X.A X.env X.xe) (hc : X.calm = true) (hx : PE X x (tVar j)) (hN : X.N.Nodup) (hi : X.N[i]? = some z) (hl : Loc X.env.scope z) (hz : PE X (.Name z xp) (tVar i)) (ha : DE X cl W e f) (hC : ∀ s, f s = .ok (.val d) s) (ad : atomD d = true)
    (hf : X.fn z = true ∨ X.env.scope.names.lookup z = some .local := by first | exact .inl rfl | exact .inr rfl | assumption)
    (hbase : attributeBase (.Name z xp) "append" X.env (eval (.Name z xp) X.env) = eval (.Name z xp) X.env := by rfl)
    (hfew : ((backTo cp (starEach [e] X.env)).all (fun x => !x.1) && (backToKw cp (keywordEach [] X.env)).all (fun x => x.1.isSome) && decide (([e] : List Expr).length + ([] : List Keyword).length + (if ([] : List Keyword).isEmpty then 0 else 1) < 30)) = true := by rfl)
    (hline : (ap.endLine == cp.line) = true := by rfl) (hs : starEach [e] X.env = (false, eval e X.env) :: starEach [] X.env := by rfl) (hplain : (backTo cp (starEach [] X.env)).any (·.1) = false := by rfl)
    {epos : Pos} (hsw : swapsWith (.Call (.Attribute (.Name z xp) "append" ap) [e] [] cp) none epos.line X.env = pure false := by rfl)
    (hs2 : ∀ y, foldedSetIterable x X.env y = pure y := by intro _; rfl) :
    PS X (.For (.Name z ip) x [.Expr (.Call (.Attribute (.Name z xp) "append" ap) [e] [] cp) epos] [] pos) (tN X.K j (nForA j i d)) := by
  refine ps_imp (ps_for hp hc (pi_seq hx) (pg_name hN hi hl hf) (pss_one (ps_expr (pe_bm PySem.F.plainAttrs_list PySem.F.slot_list_append PySem.F.type_list_append mt_append hz (pa_cons ha pa_nil hs) hbase hfew hline hs hplain) hsw)) hs2) fun D σ H ⟨Gb, sb, σb, Hb, G, s, ⟨a, xs, ds, L, N⟩, h⟩ => ?_
  unfold nForA at h
  split at h
  rotate_left
  · exact h.elim
  rename_i ds0 e1
  rw [N.sj] at e1
  have hL : L = true := by
    cases L with
    | true => rfl
    | false => cases e1
  subst hL
  cases e1
  split at h
  rotate_left
  · exact h.elim
  rename_i hil
  obtain ⟨hil, hfl⟩ := hil
  split at h
  rotate_left
  · exact h.elim
  rename_i ds' ea
  have hlen := appAll_len ea
  have ho := N.out
  simp only [nho, if_pos] at ho
  refine ⟨.ref a, N.ej, .inl ⟨a, rfl, ⟨xs, .of ho.2.1⟩, ?_⟩⟩
  -- what is done up to m
  obtain ⟨upto, hup⟩ : ∃ upto : Nat → List PyData, ∀ m, upto m = ds'.take m ++ ds.drop m := ⟨fun m => ds'.take m ++ ds.drop m, fun _ => rfl⟩
  have gup : ∀ m (k : Nat), m ≤ ds.length → (upto m)[k]? = if k < m then ds'[k]? else ds[k]? := fun m k hm => by
    rw [hup, List.getElem?_append]
    have : (ds'.take m).length = m := by rw [List.length_take]; omega
    rw [this]
    split
    · rename_i q; rw [List.getElem?_take, if_pos q]
    · rename_i q; rw [List.getElem?_drop, show m + (k - m) = k from by omega]
  have N0 := N.blank ij
  have step : ∀ m, m < ds.length → ∃ es, ds[m]? = some (.list es) ∧ (upto m)[m]? = some (.list es) ∧ ltS es.length ∧ upto (m + 1) = (upto m).set m (.list (es ++ [d])) := fun m hm => by
    obtain ⟨es, g1, g2, g3⟩ := appAll_get ea hm
    refine ⟨es, g1, by rw [gup m m (by omega), if_neg (by omega)]; exact g1, g2, ?_⟩
    apply List.ext_getElem?
    intro k
    rw [gup (m + 1) k (by omega)]
    by_cases q : k = m
    · subst q
      rw [if_pos (by omega), g3, List.getElem?_set_self]
      rw [hup]; simp; omega
    · rw [List.getElem?_set_ne (Ne.symm q), gup m k (by omega)]
      by_cases q2 : k < m
      · rw [if_pos q2, if_pos (by omega)]
      · rw [if_neg q2, if_neg (by omega)]
  have nj : ∀ y, (putS j y (putS i .no s)).d[j]? = some y := fun y => by simp only [putS]; exact List.getElem?_set_self (by simpa using N.jl)
  have fj : ∀ ds, flatS (putS j (.val ds) (putS i .no s)).d := fun ds => flat_put hfl
  refine ⟨fun m k σ2 H2 => ∃ G2, NA X.K j Gb sb σb Hb G2 (putS j (.val (.list (upto m))) (putS i .no s)) σ2 H2 a xs (upto m) true ∧ k = ds.length - m ∧ m ≤ ds.length, ?_, ?_⟩
  · refine ⟨ds.length, G, ?_, by simp, Nat.zero_le _⟩
    have e0 : upto 0 = ds := by rw [hup]; simp
    have es : putS j (.val (.list ds)) (putS i .no s) = putS i .no s := by
      simp only [putS]
      congr 1
      apply List.ext_getElem?
      intro k
      by_cases q : k = j
      · subst q
        have := N0.sj
        simp only [putS] at this
        rw [List.getElem?_set_self (by simpa using N.jl), this]
        rfl
      · rw [List.getElem?_set_ne (Ne.symm q)]
    rw [e0, es]
    exact N0
  · rintro m k σ2 H2 ⟨G2, N2, rfl, hm⟩
    have ho2 := N2.out
    simp only [nho, if_pos] at ho2
    have hx2 : xs.length = ds.length := N.len
    by_cases hlt : m < ds.length
    · obtain ⟨es, g1, g2, g3, g4⟩ := step m hlt
      obtain ⟨at1, b, vs, e3, hb, rb, _⟩ := N2.el m es g2
      refine .inr ⟨⟨xs, _, .of ho2.2.1, e3⟩, fun σ3 H3 => ∃ G3, NA X.K j Gb sb σb Hb G3 (putS j (.val (.list (upto (m + 1)))) (putS i .no s)) σ3 H3 a xs (upto (m + 1)) true, fun σ3 H3 ⟨G3, N3⟩ => ⟨ds.length - (m + 1), by omega, G3, N3, rfl, hlt⟩, fun y H3 hy => ?_⟩
      obtain ⟨rfl, hy⟩ := hy
      have ey := hy xs (.of ho2.2.1)
      rw [e3] at ey
      cases ey
      have N3 := N2.put (i := i) (x := .no) (v := .ref b) ij (by simpa [putS] using hil) trivial (by intro _ e; cases e)
      have es3 : putS i .no (putS j (.val (.list (upto m))) (putS i .no s)) = putS j (.val (.list (upto m))) (putS i .no s) := by
        simp only [putS]
        rw [List.set_comm _ _ ij.symm, List.set_set]
      rw [es3] at N3
      have hσ : (σ2.set i (some (V.ref b)))[i]? = some (some (.ref b)) := List.getElem?_set_self (by
        have := N2.sa.len
        simp [putS] at this
        rw [← this]; simpa using hil)
      refine ⟨.ref b, hσ, .inl ⟨rfl, _, .of hb⟩, _, _, N3.view, ?_⟩
      rw [hC]
      intro G4 H4 st4 S4 w rw'
      have N4 := N3.thaw st4 S4 ⟨rfl, fj _⟩
      obtain ⟨_, b', vs', e3', hb', rb', _⟩ := N4.el m es g2
      rw [e3] at e3'
      cases e3'
      refine ⟨b, vs', w, rfl, rfl, hb', by rw [dps_len rb']; exact g3, thawG a xs (upto m) G4, ?_⟩
      have N5 := N4.app g2 e3 hb' (rp_atom rw' ad) ad
      have e5 : putS j (.val (nvw ((upto m).set m (.list (es ++ [d]))) true)) (putS j (.val (.list (upto m))) (putS i .no s)) = putS j (.val (.list (upto (m + 1)))) (putS i .no s) := by
        simp only [putS, List.set_set, nvw]
        rw [g4]
        rfl
      rw [e5, ← g4] at N5
      exact N5
    · have e : m = ds.length := by omega
      subst e
      have e6 : upto ds.length = ds' := by rw [hup, List.drop_length, List.append_nil]; exact List.take_of_length_le (by omega)
      rw [e6] at N2
      exact .inl ⟨⟨xs, .of ho2.2.1, by omega⟩, h G2 σ2 H2 ⟨a, xs, ds', true, N2⟩⟩
end
end DL

/-! DL32: the block that begins with x = a call that tells new lists -/
noncomputable section
namespace DL
open PySem L2 PyProof.Rows
open Evl (Ex)
/-- slots whose lists are known from now on -/
def frz1 (i : Nat) (s : DSt) : DSt := match s.d[i]? with
  | some (.own ds) => { s with d := s.d.set i (.val (.list ds)) }
  | _ => s
def frzS : List Nat → DSt → DSt
  | [], s => s
  | i :: r, s => frzS r (frz1 i s)
def flatE : PyData → Prop
  | .list es => es.all atomD = true
  | d => atomD d = true
def nestOk (ds : List PyData) : Prop := ∀ d ∈ ds, flatE d
def nestOk1 (ds : List PyData) : Prop := nestOk ds ∧ ds.Nodup
def okP : Sl → Sl → Prop
  | _, .no => True
  | .own es, y => es.all atomD = true ∧ (y = .own es ∨ y = .val (.list es))
  | x, y => y = x
def okL : List Sl → List Sl → Prop
  | [], [] => True
  | x :: r, y :: q => okP x y ∧ okL r q
  | _, _ => False
instance (ds : List PyData) : Decidable (nestOk ds) := Classical.propDecidable _
instance (ds : List PyData) : Decidable (nestOk1 ds) := Classical.propDecidable _
instance (x y : List Sl) : Decidable (okL x y) := Classical.propDecidable _
def nEnd (j : Nat) (fl : Flow) : Flow := match fl with
  | .next s => .next (putS j .no s)
  | .ret (.val d) s => if atomD d = true then .ret (.val d) s else .stuck
  | _ => .stuck
def sameW (s0 s1 : DSt) : Prop := s1.w = s0.w
instance (s0 s1 : DSt) : Decidable (sameW s0 s1) := Classical.propDecidable _
def kNB (j : Nat) (g : DSt → Flow) (s0 : DSt) : Res R → Flow
  | .ok (.new ds) s1 => if nestOk1 ds ∧ okL (putS j .no s0).d (putS j .no s1).d ∧ j < s1.d.length then nEnd j (g (putS j (.val (.list ds)) s1)) else .stuck
  | .ok (.val (.tuple ds)) s1 => if nestOk ds ∧ sameW s0 s1 ∧ okL (putS j .no s0).d (putS j .no s1).d ∧ j < s1.d.length then nEnd j (g (putS j (.val (.tuple ds)) s1)) else .stuck
  | _ => .stuck
def fNB (j : Nat) (js : List Nat) (f : M R) (g : DSt → Flow) : DSt → Flow := fun s => kNB j g (frzS js s) (f (frzS js s))
theorem okL_get : ∀ {l m : List Sl} {i : Nat} {y : Sl}, okL l m → m[i]? = some y → ∃ x, l[i]? = some x ∧ okP x y
  | [], [], i, y, _, e => by simp at e
  | [], _ :: _, i, y, h, e => h.elim
  | _ :: _, [], i, y, h, e => h.elim
  | x :: r, z :: q, 0, y, h, e => by simp at e; subst e; exact ⟨x, rfl, h.1⟩
  | x :: r, z :: q, i + 1, y, h, e => by
    obtain ⟨w, e1, h1⟩ := okL_get (l := r) (m := q) (i := i) h.2 (by simpa using e)
    exact ⟨w, by simpa using e1, h1⟩
section
variable {K : PySem.W.Frag} {G H : Hp} {s : DSt} {σ : L2.St}
theorem frz_ok : ∀ (js : List Nat) {G : Hp} {s : DSt}, SA K G s σ H → ∃ G', Stp G s σ H G' (frzS js s) σ H ∧ SA K G' (frzS js s) σ H
  | [], G, s, S => ⟨G, Stp.refl, S⟩
  | i :: r, G, s, S => by
    have h : ∃ G', Stp G s σ H G' (frz1 i s) σ H ∧ SA K G' (frz1 i s) σ H := by
      unfold frz1
      split
      · rename_i ds e
        obtain ⟨a, xs, _, _, st, S', _⟩ := slot_known S e
        exact ⟨_, st, S'⟩
      · exact ⟨G, Stp.refl, S⟩
    obtain ⟨G1, st1, S1⟩ := h
    obtain ⟨G2, st2, S2⟩ := frz_ok r S1
    exact ⟨G2, st1.trans st2, S2⟩
theorem flat_list {d : PyData} {es : List PyData} (h : flatE d) (e : d = .list es) : es.all atomD = true := by subst e; exact h
theorem flat_at {d : PyData} (h : flatE d) (n : ∀ es, d ≠ .list es) : atomD d = true := by
  cases d with
  | list es => exact absurd rfl (n es)
  | _ => exact h
/-- what the call has told stands now at the slot j -/
theorem na_start {j : Nat} {G0 G1 H1 : Hp} {s0 s1 : DSt} {a : Addr} {xs : List V} {ds : List PyData} {L : Bool} (st0 : Stp G s σ H G0 s0 σ H) (S0 : SA K G0 s0 σ H) (st1 : Stp G0 s0 σ H G1 s1 σ H1) (S1 : SA K G1 s1 σ H1)
    (jl : j < s1.d.length) (ok : okL (putS j .no s0).d (putS j .no s1).d) (hl : xs.length = ds.length) (hn : nestOk ds) (hN : ∀ x, nestP a xs ds x → H x = none ∧ ¬ Own (putS j .no s1) σ x) (one : OneIn ds xs)
    (he : ∀ (i : Nat) es, ds[i]? = some (.list es) → ∃ b vs, xs[i]? = some (.ref b) ∧ H1 b = some (.lst vs) ∧ RpAll K E0 vs es)
    (ha : ∀ (i : Nat) d, ds[i]? = some d → (∀ es, d ≠ .list es) → ∃ x, xs[i]? = some x ∧ Rp K E0 x d) (ho : H1 a = some (nho xs L)) :
    NA K j G s σ H (thawG a xs ds G1) (putS j (.val (nvw ds L)) s1) (σ.set j (some (.ref a))) H1 a xs ds L := by
  have pp : ∀ x, putS j .no (putS j x s1) = putS j .no s1 := fun x => by simp [putS]
  have jσ : j < σ.length := by rw [← S1.len]; exact jl
  have tn : ∀ x, G1 x = none → thawG a xs ds G1 x = none := fun x h => by
    by_cases q : nestP a xs ds x
    · exact thaw_in q
    · rw [thaw_out q]; exact h
  have exT2 : Ex (thawG a xs ds G1) G1 := fun x o e => by
    by_cases h : nestP a xs ds x
    · rw [thaw_in h] at e; cases e
    · rwa [thaw_out h] at e
  have exT0 : Ex G0 (thawG a xs ds G1) := fun x o e => by
    have hn : ¬ nestP a xs ds x := fun z => by
      have := (hN x z).1
      rw [S0.gh x o e] at this; cases this
    rw [thaw_out hn]
    exact st1.ex x o e
  have stT := st0.trans st1
  have hj : ∀ y, (putS j y s1).d[j]? = some y := fun y => by simp only [putS]; exact List.getElem?_set_self jl
  have oa : ∀ i x, OwnAt (putS j .no s1) (σ.set j (some (.ref a))) i x → i ≠ j ∧ OwnAt (putS j .no s1) σ i x ∧ OwnAt s1 σ i x := by
    rintro i x ⟨⟨es, e⟩, e2⟩
    by_cases q : i = j
    · subst q
      rw [hj] at e
      cases e
    · rw [List.getElem?_set_ne (Ne.symm q)] at e2
      have e' := e
      simp only [putS, List.getElem?_set_ne (Ne.symm q)] at e'
      exact ⟨q, ⟨⟨es, e⟩, e2⟩, ⟨es, e'⟩, e2⟩
  have ow : ∀ x, Own (putS j .no s1) (σ.set j (some (.ref a))) x → Own (putS j .no s1) σ x ∧ Own s1 σ x := fun x z => by
    rcases z with ⟨i, z⟩ | z
    · exact ⟨.inl ⟨i, (oa i x z).2.1⟩, .inl ⟨i, (oa i x z).2.2⟩⟩
    · exact ⟨.inr z, .inr z⟩
  refine ⟨?_, ⟨st0.ex.trans exT0, fun x o h1 h2 => ?_, fun x z => ?_, stT.dom, stT.pw⟩, by simpa [putS] using jl, List.getElem?_set_self jσ, one, hl, fun i es e => ?_, fun i d e n => ?_, ?_⟩
  · rw [pp]
    refine ⟨by simp [putS, S1.len], fun x o e => S1.gh x o (exT2 x o e), fun i sl h => ?_, fun i k x h1 h2 => S1.inj i k x (oa i x h1).2.2 (oa k x h2).2.2, fun i x h => tn x (S1.ownG i x (oa i x h).2.2), ?_, fun i x h => S1.pne i x (oa i x h).2.2⟩
    · by_cases q : i = j
      · subst q
        rw [hj] at h
        cases h
        trivial
      · obtain ⟨x, ex, op⟩ := okL_get ok h
        simp only [putS, List.getElem?_set_ne (Ne.symm q)] at h ex
        rw [List.getElem?_set_ne (Ne.symm q)]
        have z0 := S0.slot i x ex
        have z1 := S1.slot i sl h
        cases sl with
        | no => trivial
        | own es =>
          cases x with
          | own es0 =>
            obtain ⟨fl, e | e⟩ := op
            · cases e
              obtain ⟨c, ys, e1, hc, hh⟩ := z1
              exact ⟨c, ys, e1, hc, rps_atom hh fl⟩
            · cases e
          | no => cases op
          | val d => cases op
          | raw d => cases op
          | ob d => cases op
        | raw v => exact z1
        | val d =>
          cases x with
          | own es0 =>
            obtain ⟨fl, e | e⟩ := op
            · cases e
            · cases e
              obtain ⟨c, ys, e1, hc, hh⟩ := z0
              obtain ⟨v, e2, rr⟩ := z1
              rw [e1] at e2
              cases e2
              refine ⟨.ref c, e1, ?_⟩
              cases rr with
              | lst h1 h2 =>
                exact .lst (by rw [thaw_out fun z => by rw [(hN c z).1] at hc; cases hc]; exact h1) (rps_atom h2 fl)
          | val d0 =>
            cases op
            obtain ⟨v, e, rr⟩ := z0
            exact ⟨v, e, dp_mono exT0 _ _ rr⟩
          | no => cases op
          | raw d => cases op
          | ob d => cases op
        | ob o =>
          cases x with
          | own es0 => obtain ⟨_, e | e⟩ := op <;> cases e
          | ob o0 =>
            cases op
            obtain ⟨v, e, rr⟩ := z0
            exact ⟨v, e, ob_mono exT0 rr⟩
          | no => cases op
          | raw d => cases op
          | val d => cases op
    · have q : PwOk G1 s1.w H1 := S1.pw
      show PwOk _ s1.w H1
      unfold PwOk at q ⊢
      split
      · trivial
      · rename_i pa ca cells t e
        rw [e] at q
        exact ⟨q.1, q.2.1, q.2.2.1, tn _ q.2.2.2.1, tn _ q.2.2.2.2⟩
  · obtain ⟨h3, h4⟩ := stT.keep x o h1 h2
    exact ⟨h3, by rw [thaw_out fun z => by rw [(hN x z).1] at h1; cases h1]; exact h4⟩
  · rw [pp] at z
    exact stT.own x (ow x z).2
  · obtain ⟨b, vs, e2, h1, h2⟩ := he i es e
    have hP : nestP a xs ds b := .inr ⟨i, es, e, e2⟩
    exact ⟨hn _ (List.mem_of_getElem? e), b, vs, e2, h1, h2, thaw_in hP, fun z => (hN b hP).2 (ow b (by rw [pp] at z; exact z)).1, (hN b hP).1⟩
  · obtain ⟨x, e2, rr⟩ := ha i d e n
    exact ⟨flat_at (hn _ (List.mem_of_getElem? e)) n, x, e2, rr⟩
  · have hP : nestP a xs ds a := .inl rfl
    exact ⟨hj _, ho, thaw_in hP, fun z => (hN a hP).2 (ow a (by rw [pp] at z; exact z)).1, (hN a hP).1⟩
/-- own slots behind the call are those ahead of it -/
theorem own_old {j : Nat} {G0 G1 H1 : Hp} {s0 s1 : DSt} (S0 : SA K G0 s0 σ H) (st1 : Stp G0 s0 σ H G1 s1 σ H1) (S1 : SA K G1 s1 σ H1) (ok : okL (putS j .no s0).d (putS j .no s1).d) (hw : sameW s0 s1) {x : Addr} (hx : H x = none) : ¬ Own (putS j .no s1) σ x := by
  rintro (⟨i, ⟨es, e⟩, e2⟩ | z)
  · obtain ⟨y, ey, op⟩ := okL_get ok e
    by_cases q : i = j
    · subst q
      simp only [putS, List.getElem?_set] at e
      split at e
      · split at e <;> cases e
      · rename_i z; simp at z
    · simp only [putS, List.getElem?_set_ne (Ne.symm q)] at ey
      cases y with
      | own es0 =>
        obtain ⟨c, ys, e1, hc, _⟩ := S0.slot i _ ey
        rw [e2] at e1
        cases e1
        rw [hx] at hc; cases hc
      | no => cases op
      | val d => cases op
      | raw d => cases op
      | ob d => cases op
  · have z : POwn s0.w x := by
      have : (putS j .no s1).w = s0.w := hw
      rw [this] at z
      exact z
    obtain ⟨ys, e⟩ := S0.ownH (.inr z)
    rw [hx] at e; cases e
theorem one_of {G : Hp} {xs : List V} {ds : List PyData} (hd : RpAll K G xs ds) (hn : nestOk ds) (nd : ds.Nodup) : OneIn ds xs := by
  intro i k b es fs e1 e2 e3 e4
  obtain ⟨d, e5, r1⟩ := dps_get hd e3
  rw [e1] at e5; cases e5
  obtain ⟨d, e6, r2⟩ := dps_get hd e4
  rw [e2] at e6; cases e6
  have f1 := hn _ (List.mem_of_getElem? e1)
  have f2 := hn _ (List.mem_of_getElem? e2)
  have e : es = fs := by
    cases r1 with
    | lst h1 q1 =>
      cases r2 with
      | lst h2 q2 =>
        rw [h1] at h2
        cases h2
        exact rps0_fun q1 q2 f1 f2
  subst e
  obtain ⟨l1, g1⟩ := List.getElem?_eq_some_iff.mp e1
  obtain ⟨l2, g2⟩ := List.getElem?_eq_some_iff.mp e2
  exact (List.nodup_iff_pairwise_ne.mp nd |> fun pw => by
    rcases Nat.lt_trichotomy i k with h | h | h
    · exact absurd (g1.trans g2.symm) (List.pairwise_iff_getElem.mp pw i k l1 l2 h)
    · exact h
    · exact absurd (g2.trans g1.symm) (List.pairwise_iff_getElem.mp pw k i l2 l1 h))
end
section
variable {X : Cx} {cl : String → Addr} {W : WX} {e : Expr} {f : M R} {pos pos' : Pos} {rest : List Stmt} {g : DSt → Flow} {j : Nat} {x : Str}
theorem n_block (js : List Nat) (hN : X.N.Nodup) (hi : X.N[j]? = some x) (hx : Loc X.env.scope x) (he : ∀ H0, PE X e (tDd X.K cl W H0 f)) (hr : PSs X rest (tN X.K j g)) (hs : swapsWith e (some (.Name x pos')) pos.line X.env = pure false := by rfl)
    (hf : X.fn x = true ∨ X.env.scope.names.lookup x = some .local := by first | exact .inl rfl | exact .inr rfl | assumption) :
    DSs X cl W (.Assign [.Name x pos'] e pos :: rest) (fNB j js f g) := by
  have he' : PE X e (fun σ H Q => tDd X.K cl W H f σ H Q) := ⟨fun pins s σ H Q I q => (he H).run pins s σ H Q I q⟩
  refine pss_imp (pss_cons (ps_set hN hi hx he' hs hf) hr) fun D σ H ⟨G, s, S, h⟩ => ?_
  obtain ⟨G0, st0, S0⟩ := frz_ok js S
  refine ⟨G0, frzS js s, S0, fun a h => h, ?_⟩
  unfold fNB at h
  have fin : ∀ {fl : Flow}, FOut X.K cl W G s σ H (nEnd j fl) D → NOut X.K j G s σ H fl D := by
    intro fl h
    cases fl with
    | next s5 =>
      rintro G' σ' H' ⟨a, xs, ds, L, N⟩
      exact h G' σ' H' N.stp N.sa
    | brk s5 => exact h.elim
    | cnt s5 => exact h.elim
    | err y s5 => exact h.elim
    | stuck => exact h.elim
    | ret r s5 =>
      cases r with
      | new d => exact h.elim
      | raw d => exact h.elim
      | ob d => exact h.elim
      | slot d => exact h.elim
      | val d =>
        unfold nEnd at h
        dsimp only at h
        split at h
        · rename_i ad
          exact ⟨ad, fun v G' σ' H' st S' rr => h v G' σ' H' st S' (rp_atom rr ad)⟩
        · exact h.elim
  cases z : f (frzS js s) with
  | err y s1 => rw [z] at h; exact h.elim
  | stuck => rw [z] at h; exact h.elim
  | ok r s1 =>
    rw [z] at h
    intro G1 H1 st1 S1 v rr dr
    cases r with
    | raw u => exact h.elim
    | ob u => exact h.elim
    | slot u => exact h.elim
    | new ds =>
      unfold kNB at h
      dsimp only at h
      split at h
      rotate_left
      · exact h.elim
      rename_i hc
      obtain ⟨⟨hn, nd⟩, ok, jl⟩ := hc
      obtain ⟨a, xs, rfl, ha, hd, ga, h0, na⟩ := rr
      have nw := (dr a xs rfl ha).2
      have one := one_of hd hn nd
      refine ⟨G, s, σ, H, _, _, ⟨a, xs, ds, true, na_start st0 S0 st1 S1 jl ok (dps_len hd) hn ?_ one ?_ ?_ ha⟩, fin h⟩
      · rintro x (rfl | ⟨i, es, e1, e2⟩)
        · exact ⟨h0, fun z => na ((sa_no S1).2 x z)⟩
        · refine ⟨nw i x es e1 e2, fun z => ?_⟩
          obtain ⟨d, e3, rr⟩ := dps_get hd e2
          rw [e1] at e3
          cases e3
          have z := (sa_no S1).2 x z
          cases rr with
          | lst h _ =>
            rcases z with ⟨k, z⟩ | z
            · rw [S1.ownG k x z] at h; cases h
            · rw [G_pown S1.pw z] at h; cases h
      · intro i es e
        obtain ⟨x, e2, rr⟩ := dps_at hd e
        have fl : es.all atomD = true := hn _ (List.mem_of_getElem? e)
        cases rr with
        | lst h1 h2 => exact ⟨_, _, e2, S1.gh _ _ h1, rps_atom h2 fl⟩
      · intro i d e n
        obtain ⟨x, e2, rr⟩ := dps_at hd e
        exact ⟨x, e2, rp_atom rr (flat_at (hn _ (List.mem_of_getElem? e)) n)⟩
    | val dd =>
      cases dd with
      | tuple ds =>
        unfold kNB at h
        dsimp only at h
        split at h
        rotate_left
        · exact h.elim
        rename_i hc
        obtain ⟨hn, hw, ok, jl⟩ := hc
        obtain ⟨a, xs, rfl, ha, h0, hd, nw, one⟩ := dr
        refine ⟨G, s, σ, H, _, _, ⟨a, xs, ds, false, na_start st0 S0 st1 S1 jl ok (dps_len hd) hn ?_ one ?_ ?_ ha⟩, fin h⟩
        · rintro x (rfl | ⟨i, es, e1, e2⟩)
          · exact ⟨h0, own_old S0 st1 S1 ok hw h0⟩
          · exact ⟨nw i x es e1 e2, own_old S0 st1 S1 ok hw (nw i x es e1 e2)⟩
        · intro i es e
          obtain ⟨x, e2, rr⟩ := dps_at hd e
          have fl : es.all atomD = true := hn _ (List.mem_of_getElem? e)
          cases rr with
          | lst h1 h2 => exact ⟨_, _, e2, h1, rps_atom h2 fl⟩
        · intro i d e n
          obtain ⟨x, e2, rr⟩ := dps_at hd e
          exact ⟨x, e2, rp_atom rr (flat_at (hn _ (List.mem_of_getElem? e)) n)⟩
      | none => exact h.elim
      | bool d => exact h.elim
      | int d => exact h.elim
      | str d => exact h.elim
      | list d => exact h.elim
      | dict d => exact h.elim
end
end DL

/-! DL33: rows for simp -/
noncomputable section
namespace DL
open PySem L2
section
variable {α : Type} {s s1 : DSt} {d d' : List Sl} {w w' : Pw} {x : PyData} {ds es : List PyData} {j i k : Nat} {p q : DSt → Flow} {f : M R} {fs : M (List R)}
def andN (x : Flow) (q : DSt → Flow) : Flow := match x with
  | .next s => q s
  | .err y s => .err y s
  | _ => .stuck
@[simp] theorem an_next : andN (.next s) q = q s := Eq.trans rfl rfl
@[simp] theorem an_err {y : Exn} : andN (.err y s) q = .err y s := Eq.trans rfl rfl
@[simp] theorem x_seqn : fseqn p q s = andN (p s) q := by unfold fseqn andN; cases p s <;> rfl
def onResN (r : Res α) (g : α → DSt → Flow) : Flow := match r with
  | .ok a s => g a s
  | _ => .stuck
@[simp] theorem rn_ok {a : α} {g : α → DSt → Flow} : onResN (.ok a s) g = g a s := Eq.trans rfl rfl
def retV (x : Flow) : Flow := match x with
  | .ret (.val d) s => if atomD d = true then .ret (.val d) s else .stuck
  | _ => .stuck
@[simp] theorem x_retV : retV (.ret (.val x) s) = if atomD x = true then .ret (.val x) s else .stuck := Eq.trans rfl rfl
def kVw (p : DSt → Flow) (s0 : DSt) (b : Bool) (s1 : DSt) : Flow := if b = true then retV (p s1) else if sameV s0 s1 then .next s1 else .stuck
@[simp] theorem y_kVw {b : Bool} : kVw p s b s1 = if b = true then retV (p s1) else if sameV s s1 then .next s1 else .stuck := Eq.trans rfl rfl
@[simp] theorem x_vwIf {t : M Bool} : vwIf t p s = onResN (t s) (kVw p s) := by
  unfold vwIf onResN kVw retV
  cases t s with
  | ok b s1 => cases b <;> rfl
  | _ => rfl
@[simp] theorem x_sameV : sameV ⟨d, w⟩ ⟨d', w'⟩ ↔ d' = d ∧ flatS d := Iff.rfl
@[simp] theorem x_flat0 : flatS [] ↔ True := Iff.rfl
@[simp] theorem x_flat_own {r : List Sl} : flatS (.own ds :: r) ↔ ds.all atomD = true ∧ flatS r := Iff.rfl
@[simp] theorem x_flat_val {r : List Sl} : flatS (.val x :: r) ↔ flatS r := Iff.rfl
@[simp] theorem x_flat_raw {v : V} {r : List Sl} : flatS (.raw v :: r) ↔ flatS r := Iff.rfl
@[simp] theorem x_flat_ob {o : OD} {r : List Sl} : flatS (.ob o :: r) ↔ flatS r := Iff.rfl
@[simp] theorem x_flat_no {r : List Sl} : flatS (.no :: r) ↔ flatS r := Iff.rfl
def kForR (i : Nat) (p : DSt → Flow) (s0 : DSt) (rs : List R) (s1 : DSt) : Flow := match rs with
  | [r] => (match look r s1 with
    | some (.int m) => if inB m ∧ sameV s0 s1 then loopF (bName i) p (rangeD 0 m.toNat) s1 else .stuck
    | _ => .stuck)
  | _ => .stuck
@[simp] theorem y_kForR {r : R} : kForR i p s [r] s1 = (match look r s1 with | some (.int m) => if inB m ∧ sameV s s1 then loopF (bName i) p (rangeD 0 m.toNat) s1 else .stuck | _ => .stuck) := Eq.trans rfl rfl
@[simp] theorem x_nForR : nForR i fs p s = onResN (fs s) (kForR i p s) := by
  unfold nForR onResN kForR
  cases fs s with
  | ok rs s1 => rcases rs with _ | ⟨r, _ | ⟨r2, rs⟩⟩ <;> rfl
  | _ => rfl
@[simp] theorem x_nApp : nApp j k x s = (match s.d[j]?, s.d[k]? with
  | some (.val (.list ds)), some (.val (.int n)) => (match ixN ds.length n with
    | some m => (match ds[m]? with
      | some (.list es) => if ltS es.length ∧ flatS s.d then .next (putS j (.val (.list (ds.set m (.list (es ++ [x]))))) s) else .stuck
      | _ => .stuck)
    | none => .stuck)
  | _, _ => .stuck) := Eq.trans rfl rfl
@[simp] theorem x_nForA : nForA j i x s = (match s.d[j]? with
  | some (.val (.list ds)) => if i < s.d.length ∧ flatS (putS i .no s).d then (match appAll x ds with
    | some ds' => .next (putS j (.val (.list ds')) (putS i .no s))
    | none => .stuck) else .stuck
  | _ => .stuck) := Eq.trans rfl rfl
@[simp] theorem x_okP_no {x : Sl} : okP x .no ↔ True := by cases x <;> exact Iff.rfl
@[simp] theorem x_okP_val {d e : PyData} : okP (.val d) (.val e) ↔ e = d := by
  show (Sl.val e = Sl.val d) ↔ _
  constructor
  · intro h; cases h; rfl
  · intro h; rw [h]
@[simp] theorem x_okP_raw {d e : V} : okP (.raw d) (.raw e) ↔ e = d := by
  show (Sl.raw e = Sl.raw d) ↔ _
  constructor
  · intro h; cases h; rfl
  · intro h; rw [h]
@[simp] theorem x_okP_ob {d e : OD} : okP (.ob d) (.ob e) ↔ e = d := by
  show (Sl.ob e = Sl.ob d) ↔ _
  constructor
  · intro h; cases h; rfl
  · intro h; rw [h]
@[simp] theorem x_okP_own : okP (.own ds) (.own es) ↔ ds.all atomD = true ∧ es = ds := by
  show (_ ∧ (Sl.own es = Sl.own ds ∨ Sl.own es = Sl.val (.list ds))) ↔ _
  constructor
  · rintro ⟨h, e | e⟩ <;> cases e
    exact ⟨h, rfl⟩
  · rintro ⟨h, rfl⟩; exact ⟨h, .inl rfl⟩
@[simp] theorem x_okP_frz {e : PyData} : okP (.own ds) (.val e) ↔ ds.all atomD = true ∧ e = .list ds := by
  show (_ ∧ (Sl.val e = Sl.own ds ∨ Sl.val e = Sl.val (.list ds))) ↔ _
  constructor
  · rintro ⟨h, e | e⟩ <;> cases e
    exact ⟨h, rfl⟩
  · rintro ⟨h, rfl⟩; exact ⟨h, .inr rfl⟩
@[simp] theorem x_okL_nil : okL [] [] ↔ True := Iff.rfl
@[simp] theorem x_okL_cons {x y : Sl} {r q : List Sl} : okL (x :: r) (y :: q) ↔ okP x y ∧ okL r q := Iff.rfl
@[simp] theorem x_frz0 : frzS [] s = s := Eq.trans rfl rfl
@[simp] theorem x_frz1 {js : List Nat} : frzS (i :: js) s = frzS js (frz1 i s) := Eq.trans rfl rfl
@[simp] theorem x_frzi : frz1 i s = (match s.d[i]? with | some (.own ds) => ⟨s.d.set i (.val (.list ds)), s.w⟩ | _ => s) := Eq.trans rfl rfl
@[simp] theorem x_nEnd_next : nEnd j (.next s) = .next (putS j .no s) := Eq.trans rfl rfl
@[simp] theorem x_nEnd_ret : nEnd j (.ret (.val x) s) = if atomD x = true then .ret (.val x) s else .stuck := Eq.trans rfl rfl
@[simp] theorem x_kNB_new {g : DSt → Flow} : kNB j g s (.ok (.new ds) s1) = if nestOk1 ds ∧ okL (putS j .no s).d (putS j .no s1).d ∧ j < s1.d.length then nEnd j (g (putS j (.val (.list ds)) s1)) else .stuck := Eq.trans rfl rfl
@[simp] theorem x_kNB_tup {g : DSt → Flow} : kNB j g s (.ok (.val (.tuple ds)) s1) = if nestOk ds ∧ sameW s s1 ∧ okL (putS j .no s).d (putS j .no s1).d ∧ j < s1.d.length then nEnd j (g (putS j (.val (.tuple ds)) s1)) else .stuck := Eq.trans rfl rfl
@[simp] theorem x_fNB {js : List Nat} {g : DSt → Flow} : fNB j js f g s = kNB j g (frzS js s) (f (frzS js s)) := Eq.trans rfl rfl
@[simp] theorem x_sameW : sameW ⟨d, w⟩ ⟨d', w'⟩ ↔ w' = w := Iff.rfl
theorem grow_eq {f1 f2 : M R} {bd : Bd} {d1 d2 : List PyData} {s2 s3 s4 : DSt} (e1 : f1 s = .ok (.new d1) s) (hi : i < s.d.length) (a1 : d1.all atomD = true) (e2 : f2 (putS i .no s) = .ok (.new d2) s2) (a2 : d2.all atomD = true) (e3 : loopF bd p d2 ⟨oneS s2.d.length i (.own [.list d1]), s2.w⟩ = .next s3) (e4 : q s3 = .ret (.new ds) s4) : fGrow i f1 f2 bd p q s = .ret (.new ds) s4 := by
  unfold fGrow
  simp only [e1]
  rw [if_pos ⟨hi, a1⟩]
  simp only [e2]
  rw [if_pos a2]
  simp only [e3, e4]
end
end DL

/-! DL34: some of a list of new lists -/
noncomputable section
namespace DL
open PySem L2 PyProof.Rows
open Evl (Ex)
def isValAt (i : Nat) (d : PyData) (s : DSt) : Prop := s.d[i]? = some (.val d)
instance (i : Nat) (d : PyData) (s : DSt) : Decidable (isValAt i d s) := Classical.propDecidable _
def loopFt (i : Nat) (ft : M Bool) (vs : List Nat) : List PyData → List PyData → M (List PyData)
  | [], acc, s => .ok acc s
  | d :: ds, acc, s => if noOwn vs s.d then match bName i d { s with d := blank vs s.d } with
      | none => .stuck
      | some s1 => (nerr (ft s1)).bind fun t s2 => if t then (if isValAt i d s2 then loopFt i ft vs ds (acc ++ [d]) { s2 with d := putBack vs s.d s2.d } else .stuck)
          else loopFt i ft vs ds acc { s2 with d := putBack vs s.d s2.d }
    else .stuck
def fFilt (f : M R) (i : Nat) (ft : M Bool) (vs : List Nat) : M R := fun s => match f s with
  | .ok (.new ds) s1 => if leS ds.length then (loopFt i ft vs ds [] s1).bind (fun acc s => .ok (.new acc) s) else .stuck
  | _ => .stuck
theorem filt_gen {α : Type} {i : Nat} {ft : M Bool} {vs : List Nat} {s1 : DSt} {f : α → PyData} (sb : α → DSt) (keep : α → Bool) (hn : noOwn vs s1.d = true) : ∀ (l : List α) (acc : List PyData),
    (∀ a ∈ l, bName i (f a) ⟨blank vs s1.d, s1.w⟩ = some (sb a)) → (∀ a ∈ l, (⟨putBack vs s1.d (sb a).d, (sb a).w⟩ : DSt) = s1) → (∀ a ∈ l, ft (sb a) = .ok (keep a) (sb a)) → (∀ a ∈ l, (sb a).d[i]? = some (.val (f a))) →
    loopFt i ft vs (l.map f) acc s1 = .ok (acc ++ (l.filter keep).map f) s1
  | [], acc, _, _, _, _ => by simp [loopFt]
  | a :: l, acc, h1, h2, h3, h4 => by
    have ih := fun acc => filt_gen (f := f) sb keep hn l acc (fun b hb => h1 b (List.mem_cons_of_mem _ hb)) (fun b hb => h2 b (List.mem_cons_of_mem _ hb)) (fun b hb => h3 b (List.mem_cons_of_mem _ hb)) (fun b hb => h4 b (List.mem_cons_of_mem _ hb))
    have e1 := h1 a List.mem_cons_self
    have e2 := h2 a List.mem_cons_self
    have e3 := h3 a List.mem_cons_self
    have e4 : isValAt i (f a) (sb a) := h4 a List.mem_cons_self
    rw [List.map_cons]
    unfold loopFt
    rw [if_pos hn]
    simp only [e1, e3, nerr, bind_ok]
    cases hk : keep a with
    | true =>
      rw [if_pos rfl, if_pos e4, e2, ih, List.filter_cons, hk]
      simp
    | false =>
      rw [if_neg (by decide), e2, ih, List.filter_cons, hk]
      simp
theorem filt_all {α : Type} {i : Nat} {ft : M Bool} {vs : List Nat} {s s1 : DSt} {f : α → PyData} {l : List α} {fi : M R} (sb : α → DSt) (keep : α → Bool) (hi : fi s = .ok (.new (l.map f)) s1) (hl : l.length ≤ 100000) (hn : noOwn vs s1.d = true)
    (h1 : ∀ a ∈ l, bName i (f a) ⟨blank vs s1.d, s1.w⟩ = some (sb a)) (h2 : ∀ a ∈ l, (⟨putBack vs s1.d (sb a).d, (sb a).w⟩ : DSt) = s1) (h3 : ∀ a ∈ l, ft (sb a) = .ok (keep a) (sb a)) (h4 : ∀ a ∈ l, (sb a).d[i]? = some (.val (f a))) :
    fFilt fi i ft vs s = .ok (.new ((l.filter keep).map f)) s1 := by
  have hl2 : leS (l.map f).length := by rw [List.length_map]; exact size_le hl
  unfold fFilt
  simp only [hi, if_pos hl2]
  rw [filt_gen sb keep hn l [] h1 h2 h3 h4]
  rfl
section
variable {K : PySem.W.Frag} {cl : String → Addr} {W : WX}
theorem filt_reads {H0 : Hp} {f : M R} {i : Nat} {vs : List Nat} {ft : M Bool} (hj : i ∈ vs) {σ : L2.St} {H : Hp} {Q : VK} (q : tDd K cl W H0 (fFilt f i ft vs) σ H Q) :
    tLc (iSeq K (tDd K cl W H0 f)) (gName i) (tT K cl (fun _ _ _ _ => False) ft) (tVar i) vs σ H Q := by
  obtain ⟨G, s, S, dm, q⟩ := q
  refine ⟨G, s, S, dm, ?_⟩
  unfold fFilt at q
  cases zf : f s with
  | err x s1 => rw [zf] at q; exact q.elim
  | stuck => rw [zf] at q; exact q.elim
  | ok r s1 =>
  rw [zf] at q
  cases r with
  | val d => exact q.elim
  | raw d => exact q.elim
  | ob d => exact q.elim
  | slot d => exact q.elim
  | new ds =>
  dsimp only at q
  by_cases hz : leS ds.length
  rotate_left
  · rw [if_neg hz] at q; exact q.elim
  rw [if_pos hz] at q
  have hz : ds.length ≤ sizeLine := hz
  intro G0 H1 st0 S0 v rr dr
  obtain ⟨a, xs, rfl, ha, hd, ga, h0, na⟩ := rr
  have nw := (dr a xs rfl ha).2
  obtain ⟨exG, S1, rpa⟩ := know S0 ha hd ga na
  have st1 : Stp G s σ H (upd G0 a (.lst xs)) s1 σ H1 := ⟨st0.ex.trans exG, fun b u h1 h2 => by
    obtain ⟨h3, h4⟩ := st0.keep b u h1 h2
    exact ⟨h3, by rw [upd_ne fun z => by subst z; rw [h0] at h1; cases h1]; exact h4⟩, st0.own, st0.dom, st0.pw⟩
  obtain ⟨G1, hG1⟩ : ∃ G1, G1 = upd G0 a (.lst xs) := ⟨_, rfl⟩
  have ga1 : G1 a = some (.lst xs) := by rw [hG1]; exact upd_same
  rw [← hG1] at S1 st1 exG
  have hd1 := dps_mono exG _ _ hd
  refine .inl ⟨a, rfl, ⟨xs, .of ha⟩, fun D hD => ?_⟩
  have hJ : ItOk K (Itl K a) ds G1 := it_list ga1 hd1 fun G' s' σ' H' ex' S' => S'.gh _ _ (ex' _ _ ga1)
  have k := out_bind q
  obtain ⟨stD, SD, rrD⟩ := new_list (ds := []) S1 hD .nil st1.dom
  obtain ⟨aD, xD, eD, _, _, gD, _, nD⟩ := rrD
  cases eD
  have hgx : ∀ (G2 : Hp) (s2 : DSt) (H2 : Hp), Ex G1 G2 → SA K G2 s2 σ H2 → H2 a = some (.lst xs) := fun G2 s2 H2 ex S2 => S2.gh _ _ (ex _ _ ga1)
  refine ⟨fun m n H2 => ∃ G2 s2 acc accv, SA K G2 s2 σ H2 ∧ Stp G1 s1 σ H1 G2 s2 σ H2 ∧ H2 D = some (.lst accv) ∧ RpAll K G2 accv acc ∧ NewIn H0 acc accv ∧ G2 D = none ∧ ¬ Own s2 σ D ∧ acc.length ≤ m ∧ n = ds.length - m ∧ m ≤ ds.length ∧
      Out K cl W G s σ H (loopFt i ft vs (ds.drop m) acc s2) _, ⟨ds.length, G1, s1, [], [], SD, stD, upd_same, .nil, fun _ _ _ e => by simp at e, gD, nD, Nat.le_refl _, by simp, Nat.zero_le _, by simpa using k⟩, ?_⟩
  rintro m n H2 ⟨G2, s2, acc, accv, S2, st2, hD2, hacc, hnew, gD2, nD2, hla, rfl, hi, k2⟩
  obtain ⟨j1, j2⟩ := hJ G2 s2 σ H2 st2.ex S2 m
  by_cases hl : m < ds.length
  · obtain ⟨go, yl⟩ := j1 ds[m] (List.getElem?_eq_getElem hl)
    rw [List.drop_eq_getElem_cons hl] at k2
    unfold loopFt at k2
    refine .inr ⟨go, fun H3 => ∃ G3 s3 acc accv, SA K G3 s3 σ H3 ∧ Stp G1 s1 σ H1 G3 s3 σ H3 ∧ H3 D = some (.lst accv) ∧ RpAll K G3 accv acc ∧ NewIn H0 acc accv ∧ G3 D = none ∧ ¬ Own s3 σ D ∧ acc.length ≤ m + 1 ∧
      Out K cl W G s σ H (loopFt i ft vs (ds.drop (m + 1)) acc s3) _, fun H3 ⟨G3, s3, acc, accv, a1, a2, a3, a4, a4', a5, a6, a7, a8⟩ => ⟨ds.length - (m + 1), by omega, G3, s3, acc, accv, a1, a2, a3, a4, a4', a5, a6, a7, rfl, hl, a8⟩, fun x H3 y => ?_⟩
    by_cases hn : noOwn vs s2.d = true
    rotate_left
    · rw [if_neg hn] at k2; exact k2.elim
    rw [if_pos hn] at k2
    obtain ⟨stB, SB⟩ := sa_blank vs S2 hn
    obtain ⟨j3, _⟩ := hJ G2 _ _ H2 st2.ex SB m
    obtain ⟨_, yl⟩ := j3 ds[m] (List.getElem?_eq_getElem hl)
    obtain ⟨G3, st3, S3, rp⟩ := yl x H3 y
    have hxm : xs[m]? = some x := y.2 xs (.of (hgx G2 s2 H2 st2.ex S2))
    cases eb : bName i ds[m] { s2 with d := blank vs s2.d } with
    | none => rw [eb] at k2; exact k2.elim
    | some s4 =>
      rw [eb] at k2
      have eb' := eb
      unfold bName at eb'
      split at eb'
      rotate_left
      · cases eb'
      rename_i hil
      cases eb'
      obtain ⟨s4, hs4⟩ : ∃ s4, s4 = putS i (.val ds[m]) { s2 with d := blank vs s2.d } := ⟨_, rfl⟩
      have S4 := put_ok (x := .val ds[m]) (v := x) S3 hil ⟨x, rfl, rp⟩ (by intro _ _ z; cases z)
      have st4 := put_stp (i := i) (x := .val ds[m]) (v := x) S3 Stp.refl hil (by intro _ _ z; cases z)
      rw [← hs4] at S4 st4 k2
      have hiσ : i < (wipe σ vs).length := by rw [← S3.len]; exact hil
      have e4 : ((wipe σ vs).set i (some x))[i]? = some (some x) := List.getElem?_set_self hiσ
      obtain ⟨σ4, hσ4⟩ : ∃ σ4, σ4 = (wipe σ vs).set i (some x) := ⟨_, rfl⟩
      have l4 : σ4.length = (wipe σ vs).length := by rw [hσ4, List.length_set]
      have n4 : ∀ k, k ≠ i → σ4[k]? = (wipe σ vs)[k]? := fun k hk => by rw [hσ4, List.getElem?_set_ne (Ne.symm hk)]
      show _ ∧ _
      rw [← hσ4] at S4 st4 e4
      rw [← hσ4]
      have hw : wipe σ4 vs = wipe σ vs := (wipe_same l4 fun k hk => n4 k fun z => hk (by rw [z]; exact hj)).trans (wipe_wipe σ vs)
      refine ⟨hw, G3, s4, S4, ?_⟩
      have stA := (stB.trans st3).trans st4
      have fin : ∀ {G5 : Hp} {s5 : DSt} {H5 : Hp}, Stp G2 s2 σ H2 G5 s5 σ4 H5 → SA K G5 s5 σ4 H5 → SA K G5 { s5 with d := putBack vs s2.d s5.d } σ H5 ∧ Stp G1 s1 σ H1 G5 { s5 with d := putBack vs s2.d s5.d } σ H5 ∧ H5 D = some (.lst accv) ∧ G5 D = none ∧ ¬ Own { s5 with d := putBack vs s2.d s5.d } σ D := by
        intro G5 s5 H5 st5 S5
        obtain ⟨b1, b2⟩ := sa_back S2 hn S5 st5.ex hw
        obtain ⟨c1, c2⟩ := st5.keep D _ hD2 nD2
        have st6 : Stp G2 s2 σ H2 G5 { s5 with d := putBack vs s2.d s5.d } σ H5 := ⟨st5.ex, st5.keep, fun a z => st5.own a (b2 a z), st5.dom, st5.pw⟩
        exact ⟨b1, st2.trans st6, c1, c2.trans gD2, fun z => (st6.own D z).elim nD2 fun z => by rw [hD2] at z; cases z⟩
      dsimp only at k2
      cases et : ft s4 with
      | err x s5 => rw [et] at k2; exact k2.elim
      | stuck => rw [et] at k2; exact k2.elim
      | ok t s5 =>
        rw [et] at k2
        intro G5 H5 st5 S5
        have st25 := stA.trans st5
        obtain ⟨b1, b2, b3, b4, b5⟩ := fin st25 S5
        cases t with
        | false =>
          exact ⟨G5, _, acc, accv, b1, b2, b3, dps_mono st25.ex _ _ hacc, hnew, b4, b5, Nat.le_succ_of_le hla, k2⟩
        | true =>
          have k2 : Out K cl W G s σ H (if isValAt i ds[m] s5 then loopFt i ft vs (ds.drop (m + 1)) (acc ++ [ds[m]]) { s5 with d := putBack vs s2.d s5.d } else .stuck) _ := k2
          by_cases hv : isValAt i ds[m] s5
          rotate_left
          · rw [if_neg hv] at k2; exact k2.elim
          rw [if_pos hv] at k2
          have hv : s5.d[i]? = some (.val ds[m]) := hv
          obtain ⟨u, eu, ru⟩ := S5.slot i _ hv
          rw [e4] at eu
          cases eu
          have hacc5 := dps_mono st25.ex _ _ hacc
          refine ⟨x, e4, accv, b3, ?_, G5, _, acc ++ [ds[m]], accv ++ [x], sa_write b1 b4 b5, ⟨b2.ex, fun a o h1 h2 => ?_, b2.own, fun a h1 => ?_, b2.pw⟩, upd_same, dps_app hacc5 (.cons ru .nil), ?_, b4, b5, by simp; omega, k2⟩
          · rw [dps_len hacc]
            omega
          · have ne : a ≠ D := fun z => by subst z; rw [hD] at h1; cases h1
            rw [upd_ne ne]
            exact b2.keep a o h1 h2
          · by_cases ne : a = D
            · subst ne; rw [upd_same]; simp
            · rw [upd_ne ne]; exact b2.dom a h1
          · intro k b es h1 h2
            have hlen := dps_len hacc
            by_cases q : k < acc.length
            · rw [List.getElem?_append_left q] at h1
              rw [List.getElem?_append_left (by omega)] at h2
              exact hnew k b es h1 h2
            · have hk : k = acc.length := by
                have := (List.getElem?_eq_some_iff.mp h1).1
                simp at this
                omega
              subst hk
              rw [List.getElem?_append_right (by omega)] at h1
              rw [List.getElem?_append_right (by omega)] at h2
              simp at h1
              rw [hlen] at h2
              simp at h2
              subst h2
              exact nw m b es (by rw [List.getElem?_eq_getElem hl, h1]) hxm
  · have e : m = ds.length := by omega
    subst e
    rw [List.drop_length] at k2
    refine .inl ⟨j2 (Nat.le_refl _), ?_⟩
    have st12 := st1.trans st2
    have k3 := k2 G2 H2 st12 S2
    have k4 := k3 G2 H2 Stp.refl S2 (.ref D) ⟨D, accv, rfl, hD2, hacc, gD2, Classical.byContradiction fun z => st1.dom D z hD, nD2⟩
    refine k4 ?_
    intro a' xs' e1 e2
    cases e1
    rw [hD2] at e2
    cases e2
    exact ⟨dm.none (Classical.byContradiction fun z => st1.dom D z hD), hnew⟩
end
section
variable {X : Cx} {cl : String → Addr} {W : WX} {H0 : Hp} {e : Expr} {f : M R} {pos tpos epos : Pos} {x : Str} {i : Nat}
theorem dd_filt {ifs : List Expr} {scope : Scope} {own : List (Str × Nat)} {ft : M Bool} (hc : X.calm = true) (hN : X.N.Nodup) (he : PE X e (tDd X.K cl W H0 f)) (ok : BlkOk X.N X.env.scope scope own) (hj : i ∈ own.map (·.2))
    (hg : ∀ (s : Shared) (H : Hp) (C : Addr) (cl : List (Str × Addr)) (fp : List Addr), PG (X.blk s H scope (compEnvC scope cl C X.env) fp) (.Name x tpos) (gName i)) (ht : ∀ (s : Shared) (H : Hp) (C : Addr) (clo : List (Str × Addr)) (fp : List Addr), PTs (X.blk s H scope (compEnvC scope clo C X.env) fp) ifs (tT X.K cl W0 ft))
    (hv : ∀ (s : Shared) (H : Hp) (C : Addr) (clo : List (Str × Addr)) (fp : List Addr), PE (X.blk s H scope (compEnvC scope clo C X.env) fp) (.Name x epos) (tVar i)) (hs : ∀ x, foldedSetIterable e X.env x = pure x := by intro _; rfl) :
    PE X (.ListComp (.Name x epos) [⟨.Name x tpos, e, ifs, 0⟩] scope pos) (tDd X.K cl W H0 (fFilt f i ft (own.map (·.2)))) := pe_imp (pe_lc hc hN (pi_seq he) ok hg ht hv hs) fun σ H Q q => filt_reads hj q
end
end DL

noncomputable section
namespace DL
open PySem L2
def b_law_purse_1 : DSt → Flow := fIfS (fB (fOp (lift2 geO) (fCall absO (pCons (fOp (lift2 ixO) (fVar 1) (fVar 2)) fNil)) (fOp (lift2 powO) (fC (.int 10)) (fC (.int 18))))) (fSetIx 1 (fOp (lift2 modO) (fOp (lift2 ixO) (fVar 1) (fVar 2)) (fOp (lift2 powO) (fOp (lift2 powO) (fC (.int 10)) (fC (.int 60))) (fC (.int 20)))) (fVar 2)) fnext
abbrev o_law_purse_1 : List PyData → DSt → Flow := loopF (bName 2) b_law_purse_1
def p_law_purse : DSt → Flow := fseq (fFor (fRng1 (pCons (fCall lenO (pCons (fVar 1) fNil)) fNil)) (bName 2) b_law_purse_1) (fseq (fIfS (fB (fOp (lift2 eqO) (fVar 1) (fLst fNil))) (fSet 1 (fLst (fCons (fC (.int 0)) fNil))) fnext) (fRet (fLst (fCons (fVar 1) (fCons (fC (.int 0)) fNil)))))
def F_law_purse : List R → Pw → FRes := runF 3 1 p_law_purse
def p_law_draw : DSt → Flow := fseq (fUnP 0 2 3) (fseq (fSet 4 (fOp (lift2 modO) (fVar 3) (fLenC 2))) (fseq (fSet 5 (fIxC 2 (fVar 4))) (fseq (fSetT 0 (fOp (lift2 addO) (fVar 3) (fC (.int 1)))) (fseq (fIfS (fB (fOp (lift2 geO) (fVar 5) (fOp (lift2 powO) (fC (.int 10)) (fC (.int 18))))) (fseq (fSetC 2 (fOp (lift2 fdivO) (fVar 5) (fVar 1)) (fVar 4)) (fRet (fOp (lift2 modO) (fVar 5) (fVar 1)))) fnext) (fseq (fSet 6 (fOp (lift2 modO) (fOp (lift2 addO) (fOp (lift2 addO) (fOp (lift2 mulO) (fOp (lift2 modO) (fVar 5) (fC (.int 2147483629))) (fC (.int 48271))) (fOp (lift2 mulO) (fOp (lift2 mulO) (fVar 3) (fVar 3)) (fC (.int 69621)))) (fC (.int 11))) (fC (.int 2147483647)))) (fseq (fSet 6 (fOp (lift2 modO) (fOp (lift2 mulO) (fVar 6) (fVar 6)) (fC (.int 2147483629)))) (fseq (fSet 6 (fOp (lift2 modO) (fOp (lift2 mulO) (fVar 6) (fVar 6)) (fC (.int 2147483587)))) (fseq (fIfS (fB (fOp (lift2 gtO) (fVar 1) (fOp (lift2 powO) (fC (.int 10)) (fC (.int 9))))) (fseq (fSet 7 (fOp (lift2 modO) (fOp (lift2 addO) (fOp (lift2 addO) (fOp (lift2 mulO) (fVar 6) (fC (.int 39373))) (fOp (lift2 mulO) (fVar 3) (fC (.int 7919)))) (fC (.int 500))) (fC (.int 2147483629)))) (fSet 6 (fOp (lift2 mulO) (fVar 6) (fOp (lift2 addO) (fOp (lift2 mulO) (fOp (lift2 mulO) (fVar 7) (fVar 7)) (fVar 7)) (fC (.int 1)))))) fnext) (fRet (fOp (lift2 modO) (fVar 6) (fVar 1)))))))))))
def F_law_draw : List R → Pw → FRes := runF 8 2 p_law_draw
/-- the purse is sound -/
def WP (pa : Addr) (w : Pw) (m : Int) : Prop := ∃ (ca : Addr) (cells : List Int) (t : Int), w = some (pa, ca, cells, t) ∧ cells ≠ [] ∧ 0 ≤ t ∧ t ≤ m
theorem draw_ok {pa : Addr} {w : Pw} {m n : Int} (h : WP pa w m) (h1 : 0 < n) (h2 : n < 2 ^ 200) (hm : m < 2 ^ 60) : ∃ r w', F_law_draw [.raw (.ref pa), .val (.int n)] w = .ok (.val (.int r)) w' ∧ 0 ≤ r ∧ r < n ∧ WP pa w' (m + 1) := by
  obtain ⟨ca, cells, t, rfl, hc, t0, tm⟩ := h
  have hl : 0 < cells.length := List.length_pos_iff.mpr hc
  have hl' : (0 : Int) < cells.length := by omega
  have a0 := Int.emod_nonneg t (by omega : (cells.length : Int) ≠ 0)
  have a1 := Int.emod_lt_of_pos t hl'
  obtain ⟨k, hk⟩ := Int.eq_ofNat_of_zero_le a0
  have hkl : k < cells.length := by omega
  have ix : ixN cells.length (k : Int) = some k := by
    unfold ixN
    rw [if_pos (by omega), if_pos (by omega)]
    simp
  obtain ⟨c, hcell⟩ : ∃ c, cells[k]? = some c := ⟨_, List.getElem?_eq_getElem hkl⟩
  have hcell' : cells[k] = c := by
    rw [List.getElem?_eq_getElem hkl] at hcell
    exact Option.some.inj hcell
  have wp : ∀ cs : List Int, cs ≠ [] → WP pa (some (pa, ca, cs, t + 1)) (m + 1) := fun cs h => ⟨ca, cs, t + 1, rfl, h, by omega, by omega⟩
  have r0 : ∀ x : Int, 0 ≤ x % n := fun x => Int.emod_nonneg x (by omega)
  have r1 : ∀ x : Int, x % n < n := fun x => Int.emod_lt_of_pos x h1
  unfold F_law_draw p_law_draw
  simp only [x_runF, List.length_cons, List.length_nil]
  by_cases hb : 1000000000000000000 ≤ c
  · have e1 := fdiv_ok (a := c) h1 h2
    simp -implicitDefEqProofs [hl, hk, atI_nat, hkl, ix, hcell', mod_ok, h1, hb, e1, r0, r1]
    exact ⟨_, _, ⟨rfl, rfl⟩, r0 _, r1 _, wp _ (by simpa using hc)⟩
  · have t2 : t * t ≤ 2 ^ 60 * 2 ^ 60 := Int.mul_le_mul (by omega) (by omega) t0 (by decide)
    have t3 : 0 ≤ t * t := Int.mul_nonneg t0 t0
    have e2 : mulO (.int (c % 2147483629)) (.int 48271) = _ := mul_ok (by omega) (by omega) (by omega) (by omega)
    have e3 : mulO (.int t) (.int t) = _ := mul_ok (by omega) (by omega) (by omega) (by omega)
    have e4 : mulO (.int (t * t)) (.int 69621) = _ := mul_ok (by omega) (by omega) (by omega) (by omega)
    have sq : ∀ x : Int, 0 ≤ x → x < 2147483647 → mulO (.int x) (.int x) = some (.val (.int (x * x))) := fun x h1 h2 => mul_ok (by omega) (by omega) (by omega) (by omega)
    simp -implicitDefEqProofs [hl, hk, atI_nat, hkl, ix, hcell', mod_ok, h1, hb, r0, r1, e2, e3, e4]
    obtain ⟨x, hx⟩ : ∃ x, x = (c % 2147483629 * 48271 + t * t * 69621 + 11) % 2147483647 := ⟨_, rfl⟩
    have x0 : 0 ≤ x ∧ x < 2147483647 := by omega
    rw [← hx]
    simp [sq x x0.1 x0.2]
    obtain ⟨y, hy⟩ : ∃ y, y = x * x % 2147483629 := ⟨_, rfl⟩
    have y0 : 0 ≤ y ∧ y < 2147483647 := by omega
    rw [← hy]
    simp [sq y y0.1 y0.2]
    obtain ⟨z, hz⟩ : ∃ z, z = y * y % 2147483587 := ⟨_, rfl⟩
    have z0 : 0 ≤ z ∧ z < 2147483647 := by omega
    rw [← hz]
    by_cases hn : 1000000000 < n
    · have f1 : mulO (.int z) (.int 39373) = _ := mul_ok (by omega) (by omega) (by omega) (by omega)
      have f2 : mulO (.int t) (.int 7919) = _ := mul_ok (by omega) (by omega) (by omega) (by omega)
      simp [hn, f1, f2]
      obtain ⟨u, hu⟩ : ∃ u, u = (z * 39373 + t * 7919 + 500) % 2147483629 := ⟨_, rfl⟩
      have u0 : 0 ≤ u ∧ u < 2147483647 := by omega
      have u2 : u * u ≤ 2147483647 * 2147483647 := Int.mul_le_mul (by omega) (by omega) u0.1 (by decide)
      have u3 : 0 ≤ u * u := Int.mul_nonneg u0.1 u0.1
      have u4 : u * u * u ≤ 2147483647 * 2147483647 * 2147483647 := Int.mul_le_mul (by omega) (by omega) u0.1 (by decide)
      have u5 : 0 ≤ u * u * u := Int.mul_nonneg u3 u0.1
      rw [← hu]
      have g1 : mulO (.int (u * u)) (.int u) = _ := mul_ok (by omega) (by omega) (by omega) (by omega)
      have g2 : mulO (.int z) (.int (u * u * u + 1)) = _ := mul_ok (by omega) (by omega) (by omega) (by omega)
      simp [sq u u0.1 u0.2, g1, g2, mod_ok, h1, r0, r1]
      exact ⟨_, _, ⟨rfl, rfl⟩, r0 _, r1 _, wp _ hc⟩
    · simp [hn, mod_ok, h1, r0, r1]
      exact ⟨_, _, ⟨rfl, rfl⟩, r0 _, r1 _, wp _ hc⟩
theorem WP.mono {pa : Addr} {w : Pw} {m m' : Int} (h : WP pa w m) (h2 : m ≤ m') : WP pa w m' := by
  obtain ⟨ca, cells, t, e, hc, t0, tm⟩ := h
  exact ⟨ca, cells, t, e, hc, t0, by omega⟩
theorem rangeD_get {lo : Int} {n i : Nat} {d : PyData} (h : (rangeD lo n)[i]? = some d) : d = .int (lo + i) ∧ i < n := by
  have hi : i < n := by have := (List.getElem?_eq_some_iff.mp h).1; simpa [rangeD] using this
  simp [rangeD, hi] at h
  exact ⟨h.symm, hi⟩
theorem zT : ∃ T : Int, 0 < T ∧ T.natAbs.log2 < 4000 ∧ powO (.int 10) (.int 60) = some (.val (.int T)) := by
    obtain ⟨n, hn⟩ : ∃ n : Nat, n = 60 := ⟨_, rfl⟩
    have e : powO (.int 10) (.int 60) = some (.val (.int (10 ^ n))) := by
      rw [hn]
      exact pow_ok (by omega) (by omega) (by omega) (by omega)
    have h : (10 : Int) ^ n < 2 ^ 200 := by
      rw [hn]; decide +kernel
    have h2 : (0 : Int) < 10 ^ n := Int.pow_pos (by decide)
    refine ⟨_, h2, ?_, e⟩
    have := log_small (by omega) h
    omega
theorem zU {T : Int} (T0 : 0 < T) (T1 : T.natAbs.log2 < 4000) : ∃ U : Int, 0 < U ∧ powO (.int T) (.int 20) = some (.val (.int U)) := by
    refine ⟨T ^ (20 : Int).toNat, Int.pow_pos T0, ?_⟩
    rw [x_pow, if_pos ⟨by decide, (by decide : (20 : Int) ≤ 30000), T1⟩]
theorem z18 :  powO (.int 10) (.int 18) = some (.val (.int 1000000000000000000)) := by
    simp
theorem law_purse_ok : PurseOk 3 p_law_purse := by
  intro a ns hl
  obtain ⟨T, T0, T1, eT⟩ := zT
  obtain ⟨U, U0, eU⟩ := zU T0 T1
  have e18 := z18
  obtain ⟨s', e, ms, v, hm, hs⟩ := loopF_inv (b := bName 2) (p := b_law_purse_1) (ds := rangeD 0 ns.length) (s := ⟨[.raw (.ref a), .own (ns.map .int), .no], none⟩)
    (fun i s => ∃ (ms : List Int) (v : Sl), ms.length = ns.length ∧ s = ⟨[.raw (.ref a), .own (ms.map .int), v], none⟩) ⟨ns, .no, rfl, rfl⟩ (by
      rintro i d s hd ⟨ms, v, hm, rfl⟩
      obtain ⟨rfl, hi⟩ := rangeD_get hd
      have hi' : i < ms.length := by omega
      have ix : ixN ms.length (i : Int) = some i := by
        unfold ixN
        rw [if_pos (by omega), if_pos (by omega)]
        simp
      unfold b_law_purse_1
      by_cases hb : 1000000000000000000 ≤ (if ms[i] < 0 then -ms[i] else ms[i])
      · simp -implicitDefEqProofs [atI_nat, hi', hb, ix, -pow_ok, eT, eU, e18, mod_ok, U0]
        exact ⟨ms.set i (ms[i] % U), by simpa using hm, by simp [List.map_set]⟩
      · simp -implicitDefEqProofs [atI_nat, hi', hb, ix, -pow_ok, eT, eU, e18]
        exact hm)
  subst hs
  have lr : (rangeD 0 ns.length).length = ns.length := by simp [rangeD]
  have h62 : inB (ns.length : Int) := inB_of (by omega) (by omega)
  unfold p_law_purse
  by_cases h0 : ms = []
  · subst h0
    simp -implicitDefEqProofs [e, h62]
    exact ⟨[0], by simp⟩
  · simp -implicitDefEqProofs [e, h62, h0]
    omega

end DL

noncomputable section
namespace DL
open PySem L2
def c_law_mixed_1 : M Bool := fB (fOp (lift2 neO) (fVar 2) (fLst fNil))
def b_law_mixed_2 : DSt → Flow := fDrop (fApp 3 (fPopAt 2 (fUser F_law_draw (fCons (fVar 0) (fCons (fCall lenO (pCons (fVar 2) fNil)) fNil)))))
abbrev o_law_mixed_2 : DSt → Flow := whileF c_law_mixed_1 b_law_mixed_2 10000
def p_law_mixed : DSt → Flow := fseq (fSet 2 (fCall listO (pCons (fVar 1) fNil))) (fseq (fSet 3 (fLst fNil)) (fseq (whileF c_law_mixed_1 b_law_mixed_2 10000) (fRet (fVar 3))))
def F_law_mixed : List R → Pw → FRes := runF 4 2 p_law_mixed
def b_law_names_1 : DSt → Flow := fseq (fSet 5 (fLst (fCons (fC (.int 1)) (fCons (fOp (lift2 addO) (fC (.int 1)) (fUser F_law_draw (fCons (fVar 0) (fCons (fC (.int 3)) fNil)))) (fCons (fOp (lift2 addO) (fC (.int 1)) (fUser F_law_draw (fCons (fVar 0) (fCons (fOp (lift2 powO) (fC (.int 10)) (fC (.int 28))) fNil)))) fNil))))) (fseq (fSet 3 (fOp (lift2 addO) (fVar 3) (fOp (lift2 ixO) (fVar 5) (fOp (lift2 fdivO) (fUser F_law_draw (fCons (fVar 0) (fCons (fC (.int 6)) fNil))) (fC (.int 2)))))) (fDrop (fApp 2 (fVar 3))))
abbrev o_law_names_1 : List PyData → DSt → Flow := loopF (bName 4) b_law_names_1
def p_law_names : DSt → Flow := fseq (fSet 2 (fLst fNil)) (fseq (fSet 3 (fUn (lift1 negO) (fC (.int 1)))) (fseq (fFor (fRng1 (pCons (fVar 1) fNil)) (bName 4) b_law_names_1) (fRet (fVar 2))))
def F_law_names : List R → Pw → FRes := runF 6 2 p_law_names
/-! drawn lists -/
theorem erase_perm {α : Type} : ∀ {l : List α} {j : Nat} (h : j < l.length), (l[j] :: l.eraseIdx j).Perm l
  | a :: l, 0, _ => .refl _
  | a :: l, j + 1, h => by
    have h2 : j < l.length := by simpa using h
    have := erase_perm h2
    show (l[j] :: a :: l.eraseIdx j).Perm (a :: l)
    exact (List.Perm.swap a l[j] _).trans (this.cons a)
theorem mixed_ok {pa : Addr} {w : Pw} {m : Int} {ds : List PyData} (h : WP pa w m) (hm : m < 2 ^ 59) (hl : ds.length ≤ 5000) : ∃ es w', F_law_mixed [.raw (.ref pa), .val (.list ds)] w = .ok (.new es) w' ∧ es.Perm ds ∧ WP pa w' (m + 5000) := by
  obtain ⟨s', e, ⟨ls, fs, w', rfl, hp, k, hw, hk⟩, hc⟩ := whileF_inv (c := c_law_mixed_1) (p := b_law_mixed_2) (fun s => ∃ (ls fs : List PyData) (w' : Pw), s = ⟨[.raw (.ref pa), .val (.list ds), .own ls, .own fs], w'⟩ ∧ (fs ++ ls).Perm ds ∧ ∃ k : Nat, WP pa w' (m + k) ∧ k + ls.length = ds.length)
    (fun (s : DSt) => match s.d[2]? with | some (Sl.own ls) => ls.length | _ => 0) 10000 (s := ⟨[.raw (.ref pa), .val (.list ds), .own ds, .own []], w⟩) ⟨ds, [], w, rfl, .refl _, 0, by simpa using h, by simp⟩ (by show ds.length < 10000; omega) (by
      rintro s ⟨ls, fs, w', rfl, hp, k, hw, hk⟩
      unfold c_law_mixed_1 b_law_mixed_2
      cases hls : ls with
      | nil => exact .inr (by simp -implicitDefEqProofs)
      | cons a l =>
        have hlen : ls.length = l.length + 1 := by rw [hls]; rfl
        left
        obtain ⟨r, w2, e, r0, r1, hw2⟩ := draw_ok (n := (l.length : Int) + 1) hw (by omega) (by omega) (by omega)
        obtain ⟨j, rfl⟩ := Int.eq_ofNat_of_zero_le r0
        have hj : j < l.length + 1 := by omega
        have ix : ixN (l.length + 1) (j : Int) = some j := by
          unfold ixN
          rw [if_pos (by omega), if_pos (by omega)]
          simp
        obtain ⟨d, hd⟩ : ∃ d, (a :: l)[j]? = some d := ⟨_, List.getElem?_eq_getElem (by simpa using hj)⟩
        have hfs : ltS fs.length := size_lt (by
          have := hp.length_eq
          simp at this
          omega)
        have hW : inW (j : Int) := inW_of (by omega) (by omega)
        refine ⟨_, by simp -implicitDefEqProofs; rfl, _, by simp -implicitDefEqProofs [e, ix, hd, hW, hfs], ⟨(a :: l).eraseIdx j, fs ++ [d], w2, rfl, ?_, k + 1, ?_, ?_⟩, ?_⟩
        · have hj2 : j < (a :: l).length := by simpa using hj
          have ed : d = (a :: l)[j] := by
            rw [List.getElem?_eq_getElem hj2] at hd
            exact (Option.some.inj hd).symm
          have : ((a :: l)[j] :: (a :: l).eraseIdx j).Perm (a :: l) := erase_perm hj2
          rw [List.append_assoc, ed]
          rw [hls] at hp
          exact (List.Perm.append_left fs this).trans hp
        · have : m + ((k + 1 : Nat) : Int) = m + k + 1 := by omega
          rw [this]
          exact hw2
        · rw [List.length_eraseIdx]
          simp
          rw [if_pos (by omega)]
          omega
        · show ((a :: l).eraseIdx j).length < (a :: l).length
          rw [List.length_eraseIdx]
          simp
          rw [if_pos (by omega)]
          omega)
  have : ls = [] := by
    cases ls with
    | nil => rfl
    | cons a l =>
      exfalso
      unfold c_law_mixed_1 at hc
      simp at hc
  subst this
  refine ⟨fs, w', ?_, by simpa using hp, hw.mono (by omega)⟩
  unfold F_law_mixed p_law_mixed
  simp only [x_runF]
  simp -implicitDefEqProofs [e]
theorem mixedI_ok {pa : Addr} {w : Pw} {m : Int} {ns : List Int} (h : WP pa w m) (hm : m < 2 ^ 59) (hl : ns.length ≤ 5000) : ∃ (ms : List Int) (w' : Pw), F_law_mixed [.raw (.ref pa), .val (.list (ns.map .int))] w = .ok (.new (ms.map .int)) w' ∧ ms.Perm ns ∧ WP pa w' (m + 5000) := by
  obtain ⟨es, w', e, hp, hw⟩ := mixed_ok (ds := ns.map .int) h hm (by simpa using hl)
  obtain ⟨ms, rfl, hp2⟩ := perm_map_inv hp rfl
  exact ⟨ms, w', e, hp2, hw⟩
/-- rising from l on -/
theorem names_ok {pa : Addr} {w : Pw} {m : Int} {n : Nat} (h : WP pa w m) (hm : m < 2 ^ 59) (hn : n ≤ 1000) : ∃ (ns : List Int) (w' : Pw), F_law_names [.raw (.ref pa), .val (.int n)] w = .ok (.new (ns.map .int)) w' ∧ ns.length = n ∧ ns.Nodup ∧ (∀ x ∈ ns, 0 ≤ x) ∧ WP pa w' (m + 5000) := by
  obtain ⟨s', e, ns, last, w', v1, v2, rfl, h1, h2, h3, h4, h5, h6⟩ := loopF_map (b := bName 4) (p := b_law_names_1) (f := fun (k : Nat) => PyData.int (0 + (k : Int))) (l := List.range n) (s := ⟨[.raw (.ref pa), .val (.int n), .own [], .val (.int (-1)), .no, .no], w⟩)
    (fun i s => ∃ (ns : List Int) (last : Int) (w' : Pw) (v1 v2 : Sl), s = ⟨[.raw (.ref pa), .val (.int n), .own (ns.map .int), .val (.int last), v1, v2], w'⟩ ∧ ns.length = i ∧ ns.Nodup ∧ (∀ x ∈ ns, 0 ≤ x ∧ x ≤ last) ∧ -1 ≤ last ∧ (i : Int) ≤ n ∧ WP pa w' (m + 3 * i))
    ⟨[], -1, w, .no, .no, rfl, rfl, by simp, by simp, by decide, by omega, by simpa using h⟩ (by
      rintro i a s hi ⟨ns, last, w', v1, v2, rfl, h1, h2, h3, h4, h5, h6⟩
      have hin : i < n := by have := (List.getElem?_eq_some_iff.mp hi).1; simpa using this
      have ha : a = i := by simp [hin] at hi; exact hi.symm
      subst ha
      obtain ⟨r1, w1, e1, r10, r11, q1⟩ := draw_ok (n := 3) h6 (by omega) (by omega) (by omega)
      obtain ⟨r2, w2, e2, r20, r21, q2⟩ := draw_ok (n := 10000000000000000000000000000) q1 (by omega) (by omega) (by omega)
      obtain ⟨r3, w3, e3, r30, r31, q3⟩ := draw_ok (n := 6) q2 (by omega) (by omega) (by omega)
      have hlen : ltS ns.length := size_lt (by omega)
      obtain ⟨x, ex, hx⟩ : ∃ x : Int, atI [PyData.int 1, .int (1 + r1), .int (1 + r2)] (r3 / 2) = some (.int x) ∧ 1 ≤ x := by
        have : r3 / 2 = 0 ∨ r3 / 2 = 1 ∨ r3 / 2 = 2 := by omega
        rcases this with q | q | q <;> rw [q] <;> simp <;> omega
      unfold b_law_names_1
      refine ⟨_, _, by simp -implicitDefEqProofs; rfl, by simp -implicitDefEqProofs [e1, e2, e3, ex, hlen]; rfl, ns ++ [last + x], last + x, w3, _, _, by simp -implicitDefEqProofs; exact ⟨rfl, rfl⟩, ?_, ?_, ?_, ?_, ?_, ?_⟩
      · simp [h1]
      · rw [List.nodup_append]
        refine ⟨h2, by simp, ?_⟩
        intro a ha b hb
        simp at hb
        have := h3 a ha
        omega
      · intro y hy
        simp at hy
        rcases hy with hy | hy
        · have := h3 y hy; omega
        · omega
      · omega
      · omega
      · exact q3.mono (by omega))
  have hB : inB (n : Int) := inB_of (by omega) (by omega)
  simp at h1
  refine ⟨ns, w', ?_, h1, h2, fun x hx => (h3 x hx).1, h6.mono (by simp; omega)⟩
  unfold F_law_names p_law_names
  simp only [x_runF]
  have e' : loopF (bName 4) b_law_names_1 (rangeD 0 n) ⟨[.raw (.ref pa), .val (.int n), .own [], .val (.int (-1)), .no, .no], w⟩ = _ := e
  simp -implicitDefEqProofs [e', hB]

end DL

noncomputable section
namespace DL
open PySem L2

/-! lists of lists in order -/
def llD (x : List Int) : PyData := .list (x.map .int)
theorem llD_inj {x y : List Int} (h : llD x = llD y) : x = y := by
  unfold llD at h
  injection h with h
  exact map_int_inj.mp h
theorem alike_ints : ∀ (a b : List Int), PySem.W.alikeAll (a.map .int) (b.map .int) = true
  | [], _ => by cases ‹List Int› <;> rfl
  | x :: a, [] => rfl
  | x :: a, y :: b => by
    show (PySem.W.alike (.int x) (.int y) && PySem.W.alikeAll (a.map .int) (b.map .int)) = true
    rw [alike_ints a b]
    rfl
theorem canSort_ll (ls : List (List Int)) : canSort (ls.map llD) := by
  refine ⟨fun d hd d' hd' => ?_, .inr fun d hd => ?_, fun d hd => ?_⟩
  · obtain ⟨x, _, rfl⟩ := List.mem_map.mp hd
    obtain ⟨y, _, rfl⟩ := List.mem_map.mp hd'
    exact alike_ints x y
  · obtain ⟨x, _, rfl⟩ := List.mem_map.mp hd
    exact ⟨(fun h => by cases h), (fun xs h => by cases h)⟩
  · obtain ⟨x, _, rfl⟩ := List.mem_map.mp hd
    simp [llD]
def leLL (a b : List Int) : Bool := PySem.W.sortLe (PyProof.Rows.listOrd PyProof.Rows.itemOrd) false PySem.W.keyToks (llD a) (llD b)
def sortLL (ls : List (List Int)) : List (List Int) := ls.mergeSort leLL
theorem sortDD_ll (ls : List (List Int)) : sortDD (ls.map llD) = (sortLL ls).map llD := (PySem.W.sort_maps llD fun _ _ _ _ => rfl).symm
theorem sortLL_perm (ls : List (List Int)) : (sortLL ls).Perm ls := List.mergeSort_perm _ _
theorem toks_inj : ∀ (a b : List Int), PySem.W.keyToksAll (a.map .int) = PySem.W.keyToksAll (b.map .int) → a = b
  | [], [], _ => rfl
  | [], y :: b, h => by simp [PySem.W.keyToksAll] at h
  | x :: a, [], h => by simp [PySem.W.keyToksAll] at h
  | x :: a, y :: b, h => by
    simp [PySem.W.keyToksAll, PySem.W.keyToks] at h
    rw [h.1, toks_inj a b h.2]
theorem leLL_anti {a b : List Int} (h1 : leLL a b = true) (h2 : leLL b a = true) : a = b := by
  unfold leLL PySem.W.sortLe at h1 h2
  simp only [cond_false, Bool.not_eq_true'] at h1 h2
  have := (PyProof.Rows.listOrd PyProof.Rows.itemOrd).total _ _ h2 h1
  exact toks_inj a b this
theorem leLL_total : PySem.W.TotalLe leLL := { total := fun a b => (PySem.W.sortLe_total (PyProof.Rows.listOrd PyProof.Rows.itemOrd) false PySem.W.keyToks).total (llD a) (llD b), trans := fun a b c => (PySem.W.sortLe_total (PyProof.Rows.listOrd PyProof.Rows.itemOrd) false PySem.W.keyToks).trans (llD a) (llD b) (llD c) }
theorem sortLL_pair (ls : List (List Int)) : (sortLL ls).Pairwise fun a b => leLL a b = true := PySem.W.sort_pairwise leLL_total ls
theorem pair_eq : ∀ {l m : List (List Int)}, l.Perm m → l.Pairwise (fun a b => leLL a b = true) → m.Pairwise (fun a b => leLL a b = true) → l = m
  | [], m, h, _, _ => by have := h.length_eq; cases m with | nil => rfl | cons => simp at this
  | a :: l, [], h, _, _ => by have := h.length_eq; simp at this
  | a :: l, b :: m, h, h1, h2 => by
    have ha := List.pairwise_cons.mp h1
    have hb := List.pairwise_cons.mp h2
    have e1 : a ∈ b :: m := h.mem_iff.mp List.mem_cons_self
    have e2 : b ∈ a :: l := h.mem_iff.mpr List.mem_cons_self
    have e : a = b := by
      rcases List.mem_cons.mp e1 with e | e
      · exact e
      · rcases List.mem_cons.mp e2 with f | f
        · exact f.symm
        · exact leLL_anti (ha.1 b f) (hb.1 a e)
    subst e
    rw [pair_eq (List.Perm.cons_inv h) ha.2 hb.2]
theorem sortLL_eq {l m : List (List Int)} (h : l.Perm m) : sortLL l = sortLL m := pair_eq ((sortLL_perm l).trans (h.trans (sortLL_perm m).symm)) (sortLL_pair l) (sortLL_pair m)
theorem mem_sortLL {l : List (List Int)} {x : List Int} : x ∈ sortLL l ↔ x ∈ l := (sortLL_perm l).mem_iff
theorem intsD_ll {ls : List (List Int)} : intsD (ls.map llD) = if ls = [] then some [] else none := by
  cases ls with
  | nil => rfl
  | cons a l => simp [llD, intsD]
/-- what sorted tells of lists -/
theorem sortedO_ll (ls : List (List Int)) : sortedO [.list (ls.map llD)] = some (.new ((sortLL ls).map llD)) := by
  rw [x_sortedO, intsD_ll]
  by_cases h : ls = []
  · subst h
    simp [sortLL, sortI]
  · simp only [h, if_false]
    rw [if_pos (canSort_ll ls), sortDD_ll]
theorem calm_ll {ls : List (List Int)} : calmA (ls.map llD) = true := by
  rw [calm_map]
  simp [llD]
theorem dep_ll {ls : List (List Int)} : PyData.depthAll (ls.map llD) ≤ 1 := by
  rw [depthAll_le]
  intro x hx
  obtain ⟨y, _, rfl⟩ := List.mem_map.mp hx
  simp [llD]
theorem map_llD_inj {a b : List (List Int)} : a.map llD = b.map llD ↔ a = b := ⟨fun h => (List.map_inj_right (fun a b h => llD_inj h)).mp h, fun h => by rw [h]⟩
theorem x_eqLL {a b : List (List Int)} : eqO (.list (a.map llD)) (.list (b.map llD)) = some (.val (.bool (decide (a = b)))) := eqO_calm (by simpa using calm_ll) (by simpa using calm_ll) (by simp [map_llD_inj]) (by have := dep_ll (ls := a); simp; omega)
theorem x_neLL {a b : List (List Int)} : neO (.list (a.map llD)) (.list (b.map llD)) = some (.val (.bool (decide (¬ a = b)))) := neO_calm (by simpa using calm_ll) (by simpa using calm_ll) (by simp [map_llD_inj]) (by have := dep_ll (ls := a); simp; omega)
theorem x_inLL {x : List Int} {a : List (List Int)} : inO (llD x) (.list (a.map llD)) = some (.val (.bool (decide (x ∈ a)))) := by
  unfold inO
  simp only [items]
  rw [if_pos (by have := dep_ll (ls := a); simp [llD] at this ⊢; omega)]
  congr 3
  rw [Bool.eq_iff_iff]
  simp only [List.any_map, List.any_eq_true, Function.comp, decide_eq_true_eq]
  constructor
  · rintro ⟨y, hy, e⟩
    rw [eqv_calm _ _ (by simp [llD]) (by simp [llD])] at e
    rw [← llD_inj e]
    exact hy
  · intro h
    exact ⟨x, h, (eqv_calm _ _ (by simp [llD]) (by simp [llD])).mpr rfl⟩

end DL

noncomputable section
namespace DL
open PySem L2
def p_is_number : DSt → Flow := fRet (fAndV (fIsi "int" (fVar 0)) (fV (fNot (fB (fIsi "bool" (fVar 0))))))
def F_is_number : List R → Pw → FRes := runF 1 1 p_is_number
def e_are_unlike_names_1 : M R := fAndV (fUser F_is_number (fCons (fVar 1) fNil)) (fOp (lift2 geO) (fVar 1) (fC (.int 0)))
abbrev l_are_unlike_names_1 : M R := fLc (fLstI (fVar 0)) (bName 1) fYes (e_are_unlike_names_1) [1]
def p_are_unlike_names : DSt → Flow := fseq (fIfS (fOr (fNot (fB (fIsi "list" (fVar 0)))) (fNot (fB (fCall allO (pCons (fLc (fLstI (fVar 0)) (bName 1) fYes (e_are_unlike_names_1) [1]) fNil))))) (fRet (fC (.bool false))) fnext) (fRet (fOp (lift2 eqO) (fLenSet (fVar 0)) (fCall lenO (pCons (fVar 0) fNil))))
def F_are_unlike_names : List R → Pw → FRes := runF 2 1 p_are_unlike_names
def p_is_ranking : DSt → Flow := fRet (fAndV (fUser F_are_unlike_names (fCons (fVar 0) fNil)) (fAndV (fOp (lift2 gtO) (fCall lenO (pCons (fVar 0) fNil)) (fC (.int 0))) (fOp (lift2 leO) (fCall lenO (pCons (fVar 0) fNil)) (fC (.int 10)))))
def F_is_ranking : List R → Pw → FRes := runF 1 1 p_is_ranking
def p_must_be_ranking : DSt → Flow := fIfS (fNot (fB (fUser F_is_ranking (fCons (fVar 0) fNil)))) (fRaise "NoRanking") fnext
def F_must_be_ranking : List R → Pw → FRes := runF 1 1 p_must_be_ranking
def p_is_ahead : DSt → Flow := fRet (fOp (lift2 ltO) (fIndex (fVar 0) (fVar 1)) (fIndex (fVar 0) (fVar 2)))
def F_is_ahead : List R → Pw → FRes := runF 3 3 p_is_ahead
def p_ahead : DSt → Flow := fseq (fDrop (fUser F_must_be_ranking (fCons (fVar 0) fNil))) (fseq (fIfS (fOr (fB (fOp (lift2 notInO) (fVar 1) (fVar 0))) (fOr (fB (fOp (lift2 notInO) (fVar 2) (fVar 0))) (fB (fOp (lift2 eqO) (fVar 1) (fVar 2))))) (fRaise "NoNames") fnext) (fRet (fUser F_is_ahead (fCons (fVar 0) (fCons (fVar 1) (fCons (fVar 2) fNil))))))
def F_ahead : List R → Pw → FRes := runF 3 3 p_ahead
def e_places_of_pairs_1 : M R := fTup (fCons (fVar 2) (fCons (fVar 3) fNil))
abbrev l_places_of_pairs_1 : M R := fLc (fRng2 (pCons (fOp (lift2 addO) (fVar 2) (fC (.int 1))) (pCons (fVar 0) fNil))) (bName 3) fYes (e_places_of_pairs_1) [3]
def b_places_of_pairs_2 : DSt → Flow := fSet 1 (fOp (lift2 addO) (fVar 1) (fLc (fRng2 (pCons (fOp (lift2 addO) (fVar 2) (fC (.int 1))) (pCons (fVar 0) fNil))) (bName 3) fYes (e_places_of_pairs_1) [3]))
abbrev o_places_of_pairs_2 : List PyData → DSt → Flow := loopF (bName 2) b_places_of_pairs_2
def p_places_of_pairs : DSt → Flow := fseq (fSet 1 (fLst fNil)) (fseq (fFor (fRng1 (pCons (fVar 0) fNil)) (bName 2) b_places_of_pairs_2) (fRet (fVar 1)))
def F_places_of_pairs : List R → Pw → FRes := runF 4 1 p_places_of_pairs
def e_pairs_of_1 : M R := fTup (fCons (fOp (lift2 ixO) (fVar 0) (fVar 1)) (fCons (fOp (lift2 ixO) (fVar 0) (fVar 2)) fNil))
abbrev l_pairs_of_1 : M R := fLc (fLstI (fUser F_places_of_pairs (fCons (fCall lenO (pCons (fVar 0) fNil)) fNil))) (bTup 2 (bCons (bName 1) (bCons (bName 2) bNil))) fYes (e_pairs_of_1) [1, 2]
def p_pairs_of : DSt → Flow := fRet (fLc (fLstI (fUser F_places_of_pairs (fCons (fCall lenO (pCons (fVar 0) fNil)) fNil))) (bTup 2 (bCons (bName 1) (bCons (bName 2) bNil))) fYes (e_pairs_of_1) [1, 2])
def F_pairs_of : List R → Pw → FRes := runF 3 1 p_pairs_of
def t_many_unlike_1 : M Bool := fNot (fB (fUser F_is_ahead (fCons (fVar 1) (fCons (fOp (lift2 ixO) (fVar 2) (fC (.int 0))) (fCons (fOp (lift2 ixO) (fVar 2) (fC (.int 1))) fNil)))))
def e_many_unlike_2 : M R := fVar 2
abbrev l_many_unlike_2 : M R := fLc (fLstI (fUser F_pairs_of (fCons (fVar 0) fNil))) (bName 2) (t_many_unlike_1) (e_many_unlike_2) [2]
def p_many_unlike : DSt → Flow := fRet (fCall lenO (pCons (fLc (fLstI (fUser F_pairs_of (fCons (fVar 0) fNil))) (bName 2) (t_many_unlike_1) (e_many_unlike_2) [2]) fNil))
def F_many_unlike : List R → Pw → FRes := runF 3 2 p_many_unlike
def b_must_be_alike_named_1 : DSt → Flow := fDrop (fUser F_must_be_ranking (fCons (fVar 1) fNil))
abbrev o_must_be_alike_named_1 : List PyData → DSt → Flow := loopF (bName 1) b_must_be_alike_named_1
def e_must_be_alike_named_2 : M R := fOp (lift2 eqO) (fCall sortedO (pCons (fVar 1) fNil)) (fCall sortedO (pCons (fOp (lift2 ixO) (fVar 0) (fC (.int 0))) fNil))
abbrev l_must_be_alike_named_2 : M R := fLc (fLstI (fVar 0)) (bName 1) fYes (e_must_be_alike_named_2) [1]
def p_must_be_alike_named : DSt → Flow := fseq (fFor (fLstI (fVar 0)) (bName 1) b_must_be_alike_named_1) (fIfS (fNot (fB (fCall allO (pCons (fLc (fLstI (fVar 0)) (bName 1) fYes (e_must_be_alike_named_2) [1]) fNil)))) (fRaise "NoFit") fnext)
def F_must_be_alike_named : List R → Pw → FRes := runF 2 1 p_must_be_alike_named
def p_unlike : DSt → Flow := fseq (fDrop (fUser F_must_be_alike_named (fCons (fLst (fCons (fVar 0) (fCons (fVar 1) fNil))) fNil))) (fRet (fUser F_many_unlike (fCons (fVar 0) (fCons (fVar 1) fNil))))
def F_unlike : List R → Pw → FRes := runF 2 2 p_unlike
def Rank (ns : List Int) : Prop := ns.Nodup ∧ (∀ x ∈ ns, 0 ≤ x) ∧ 0 < ns.length ∧ ns.length ≤ 10
theorem Rank.perm {ns ms : List Int} (h : Rank ns) (p : ms.Perm ns) : Rank ms := ⟨p.nodup_iff.mpr h.1, fun x hx => h.2.1 x (p.mem_iff.mp hx), by rw [p.length_eq]; exact h.2.2.1, by rw [p.length_eq]; exact h.2.2.2⟩
@[simp] theorem is_number_int {n : Int} {w : Pw} : F_is_number [.val (.int n)] w = .ok (.val (.bool true)) w := by
  unfold F_is_number p_is_number
  simp -implicitDefEqProofs [x_runF]
theorem unlike_names_ok {ns : List Int} {w : Pw} (h1 : ns.Nodup) (h2 : ∀ x ∈ ns, 0 ≤ x) (hl : ns.length ≤ 4000) : F_are_unlike_names [.val (.list (ns.map .int))] w = .ok (.val (.bool true)) w := by
  have e : fLc (fLstI (fVar 0)) (bName 1) fYes e_are_unlike_names_1 [1] ⟨[.val (.list (ns.map .int)), .no], w⟩ = .ok (.new (ns.map fun x => .bool (decide (0 ≤ x)))) ⟨[.val (.list (ns.map .int)), .no], w⟩ := by
    refine lc_all (fun a : Int => ⟨[.val (.list (ns.map .int)), .val (.int a)], w⟩) _ (f := .int) (l := ns) (by simp -implicitDefEqProofs) (by omega) rfl (fun a _ => by rfl) (fun a _ => by rfl) (fun a _ => ?_)
    unfold e_are_unlike_names_1
    simp -implicitDefEqProofs
  have e2 : (ns.map fun x : Int => decide (0 ≤ x)).all id = true := by
    simpa using h2
  have e3 : ns.length ≤ 4000 := hl
  have e4 := nub_len h1
  unfold F_are_unlike_names p_are_unlike_names
  simp only [x_runF]
  simp -implicitDefEqProofs [e, boolsD_map', e2, e3, e4]
theorem is_ranking_ok {ns : List Int} {w : Pw} (h : Rank ns) : F_is_ranking [.val (.list (ns.map .int))] w = .ok (.val (.bool true)) w := by
  obtain ⟨h1, h2, h3, h4⟩ := h
  unfold F_is_ranking p_is_ranking
  simp only [x_runF]
  have h4' : (ns.length : Int) ≤ 10 := by omega
  simp -implicitDefEqProofs [unlike_names_ok h1 h2 (by omega), h3, h4']
theorem must_ranking_ok {ns : List Int} {w : Pw} (h : Rank ns) : F_must_be_ranking [.val (.list (ns.map .int))] w = .ok (.val .none) w := by
  unfold F_must_be_ranking p_must_be_ranking
  simp only [x_runF]
  simp -implicitDefEqProofs [is_ranking_ok h]
theorem is_ahead_ok {ns : List Int} {a b : Int} {w : Pw} (ha : a ∈ ns) (hb : b ∈ ns) : F_is_ahead [.val (.list (ns.map .int)), .val (.int a), .val (.int b)] w = .ok (.val (.bool (decide (ns.idxOf a < ns.idxOf b)))) w := by
  unfold F_is_ahead p_is_ahead
  simp only [x_runF]
  simp -implicitDefEqProofs [idxO_mem ha, idxO_mem hb]
theorem ahead_ok {ns : List Int} {a b : Int} {w : Pw} (h : Rank ns) (ha : a ∈ ns) (hb : b ∈ ns) (hab : a ≠ b) : F_ahead [.val (.list (ns.map .int)), .val (.int a), .val (.int b)] w = .ok (.val (.bool (decide (ns.idxOf a < ns.idxOf b)))) w := by
  unfold F_ahead p_ahead
  simp only [x_runF]
  simp -implicitDefEqProofs [must_ranking_ok h, is_ahead_ok ha hb, ha, hb, hab]
/-! ### pairs of places -/
def places (n : Nat) : List (Nat × Nat) := (List.range n).flatMap fun k => (List.range (n - (k + 1))).map fun j => (k, k + 1 + j)
def plD (p : Nat × Nat) : PyData := .tuple [.int (p.1 : Int), .int (p.2 : Int)]
theorem places_lt {n : Nat} {p : Nat × Nat} (h : p ∈ places n) : p.1 < p.2 ∧ p.2 < n := by
  unfold places at h
  simp at h
  obtain ⟨k, hk, j, hj, rfl⟩ := h
  simp
  omega
theorem places_len {n : Nat} (h : n ≤ 10) : (places n).length = n * (n - 1) / 2 := by
  have : ∀ n : Fin 11, (places n.1).length = n.1 * (n.1 - 1) / 2 := by decide +kernel
  exact this ⟨n, by omega⟩
theorem places_of_ok {n : Nat} {w : Pw} (h : n ≤ 10) : F_places_of_pairs [.val (.int n)] w = .ok (.new ((places n).map plD)) w := by
  have hB : inB (n : Int) := inB_of (by omega) (by omega)
  have pre : ∀ i : Nat, i ≤ n → ((List.range i).flatMap fun k => (List.range (n - (k + 1))).map fun j => (k, k + 1 + j)).length ≤ 100 := by
    have : ∀ n : Fin 11, ∀ i : Fin 11, ((List.range i.1).flatMap fun k => (List.range (n.1 - (k + 1))).map fun j => (k, k + 1 + j)).length ≤ 100 := by decide +kernel
    exact fun i hi => this ⟨n, by omega⟩ ⟨i, by omega⟩
  obtain ⟨s', e, v, rfl⟩ := loopF_map (b := bName 2) (p := b_places_of_pairs_2) (f := fun (k : Nat) => PyData.int (0 + (k : Int))) (l := List.range n) (s := ⟨[.val (.int n), .own [], .no, .no], w⟩)
    (fun i s => ∃ v, s = ⟨[.val (.int n), .own (((List.range i).flatMap fun k => (List.range (n - (k + 1))).map fun j => (k, k + 1 + j)).map plD), v, .no], w⟩) ⟨.no, rfl⟩ (by
      rintro i a s hi ⟨v, rfl⟩
      have hin : i < n := by have := (List.getElem?_eq_some_iff.mp hi).1; simpa using this
      have ha : a = i := by simp [hin] at hi; exact hi.symm
      subst ha
      have hB1 : inB ((a : Int) + 1) := inB_of (by omega) (by omega)
      have et : ((n : Int) - ((a : Int) + 1)).toNat = n - (a + 1) := by omega
      obtain ⟨acc, hacc⟩ : ∃ acc, acc = ((List.range a).flatMap fun k => (List.range (n - (k + 1))).map fun j => (k, k + 1 + j)).map plD := ⟨_, rfl⟩
      rw [← hacc]
      have el : fLc (fRng2 (pCons (fOp (lift2 addO) (fVar 2) (fC (.int 1))) (pCons (fVar 0) fNil))) (bName 3) fYes e_places_of_pairs_1 [3] ⟨[.val (.int n), .own acc, .val (.int (a : Int)), .no], w⟩ = .ok (.new ((List.range (n - (a + 1))).map fun j => plD (a, a + 1 + j))) ⟨[.val (.int n), .own acc, .val (.int (a : Int)), .no], w⟩ := by
        refine lc_all (fun j : Nat => ⟨[.val (.int n), .own acc, .val (.int (a : Int)), .val (.int ((a : Int) + 1 + (j : Int)))], w⟩) _ (f := fun (k : Nat) => PyData.int ((a : Int) + 1 + (k : Int))) (l := List.range (n - (a + 1))) (by simp -implicitDefEqProofs [hB, hB1, et, rangeD]) (by simp; omega) rfl (fun a _ => by rfl) (fun a _ => by rfl) (fun j _ => ?_)
        unfold e_places_of_pairs_1
        simp -implicitDefEqProofs [plD]
      have hl : leS (acc.length + (n - (a + 1))) := size_le (by
        have := pre a (by omega)
        rw [hacc, List.length_map]
        omega)
      refine ⟨_, _, by simp -implicitDefEqProofs; rfl, by unfold b_places_of_pairs_2; simp -implicitDefEqProofs [el, hl]; rfl, .val (.int (a : Int)), ?_⟩
      rw [hacc, List.range_succ, List.flatMap_append, List.map_append]
      simp)
  unfold F_places_of_pairs p_places_of_pairs
  simp only [x_runF]
  have e' : loopF (bName 2) b_places_of_pairs_2 (rangeD 0 n) ⟨[.val (.int n), .own [], .no, .no], w⟩ = _ := e
  simp -implicitDefEqProofs [e', hB]
  rfl
/-- the pairs of a list, the earlier first -/
def pairsI (ns : List Int) : List (Int × Int) := (places ns.length).map fun p => (ns.getD p.1 0, ns.getD p.2 0)
def prD (p : Int × Int) : PyData := .tuple [.int p.1, .int p.2]
theorem pairs_of_ok {ns : List Int} {w : Pw} (h : ns.length ≤ 10) : F_pairs_of [.val (.list (ns.map .int))] w = .ok (.new ((pairsI ns).map prD)) w := by
  have e : fLc (fLstI (fUser F_places_of_pairs (fCons (fCall lenO (pCons (fVar 0) fNil)) fNil))) (bTup 2 (bCons (bName 1) (bCons (bName 2) bNil))) fYes e_pairs_of_1 [1, 2] ⟨[.val (.list (ns.map .int)), .no, .no], w⟩ = .ok (.new ((places ns.length).map fun p => prD (ns.getD p.1 0, ns.getD p.2 0))) ⟨[.val (.list (ns.map .int)), .no, .no], w⟩ := by
    refine lc_all (fun p : Nat × Nat => ⟨[.val (.list (ns.map .int)), .val (.int p.1), .val (.int p.2)], w⟩) _ (f := plD) (l := places ns.length) (by simp -implicitDefEqProofs [places_of_ok h]) (by rw [places_len h]; have : ns.length * (ns.length - 1) ≤ 10 * 9 := Nat.mul_le_mul h (by omega); omega) rfl (fun a _ => by simp -implicitDefEqProofs [plD]; rfl) (fun a _ => by rfl) (fun p hp => ?_)
    have := places_lt hp
    have h1 : atI (ns.map PyData.int) (p.1 : Int) = some (.int (ns.getD p.1 0)) := by
      rw [atI_nat]
      simp [List.getElem?_eq_getElem (by omega : p.1 < ns.length)]
    have h2 : atI (ns.map PyData.int) (p.2 : Int) = some (.int (ns.getD p.2 0)) := by
      rw [atI_nat]
      simp [List.getElem?_eq_getElem (by omega : p.2 < ns.length)]
    unfold e_pairs_of_1
    simp -implicitDefEqProofs [h1, h2, prD]
  unfold F_pairs_of p_pairs_of
  simp only [x_runF]
  simp -implicitDefEqProofs [e, pairsI]
theorem pairs_mem {ns : List Int} {p : Int × Int} (h : p ∈ pairsI ns) : p.1 ∈ ns ∧ p.2 ∈ ns := by
  unfold pairsI at h
  simp only [List.mem_map] at h
  obtain ⟨q, hq, rfl⟩ := h
  have := places_lt hq
  simp only [List.getD_eq_getElem?_getD, List.getElem?_eq_getElem (by omega : q.1 < ns.length), List.getElem?_eq_getElem (by omega : q.2 < ns.length)]
  exact ⟨List.getElem_mem _, List.getElem_mem _⟩
def manyI (one other : List Int) : Nat := ((pairsI one).filter fun p => !decide (other.idxOf p.1 < other.idxOf p.2)).length
theorem many_unlike_ok {one other : List Int} {w : Pw} (h : one.length ≤ 10) (hs : ∀ x ∈ one, x ∈ other) : F_many_unlike [.val (.list (one.map .int)), .val (.list (other.map .int))] w = .ok (.val (.int (manyI one other))) w := by
  have e : fLc (fLstI (fUser F_pairs_of (fCons (fVar 0) fNil))) (bName 2) t_many_unlike_1 e_many_unlike_2 [2] ⟨[.val (.list (one.map .int)), .val (.list (other.map .int)), .no], w⟩ = .ok (.new (((pairsI one).filter fun p => !decide (other.idxOf p.1 < other.idxOf p.2)).map prD)) ⟨[.val (.list (one.map .int)), .val (.list (other.map .int)), .no], w⟩ := by
    refine lc_gen (fun p : Int × Int => ⟨[.val (.list (one.map .int)), .val (.list (other.map .int)), .val (prD p)], w⟩) _ _ (f := prD) (l := pairsI one) (by simp -implicitDefEqProofs [pairs_of_ok h]) (by
      show (pairsI one).length ≤ 100000
      unfold pairsI
      rw [List.length_map, places_len h]
      have : one.length * (one.length - 1) ≤ 10 * 9 := Nat.mul_le_mul h (by omega)
      omega) rfl (fun a _ => by rfl) (fun a _ => by rfl) (fun p hp => ?_) (fun p hp _ => ?_)
    · obtain ⟨m1, m2⟩ := pairs_mem hp
      unfold t_many_unlike_1
      simp -implicitDefEqProofs [prD, is_ahead_ok (hs _ m1) (hs _ m2)]
    · unfold e_many_unlike_2
      simp -implicitDefEqProofs
  unfold F_many_unlike p_many_unlike
  simp only [x_runF]
  simp -implicitDefEqProofs [e, manyI]
theorem sortI_perm_eq {a b : List Int} (h : a.Perm b) : sortI a = sortI b := sortI_eq ((sortI_perm a).trans h) (sortI_le a)
theorem alike_ok {a b : List Int} {w : Pw} (ha : Rank a) (hb : Rank b) (hp : b.Perm a) : F_must_be_alike_named [.val (.list [.list (a.map .int), .list (b.map .int)])] w = .ok (.val .none) w := by
  obtain ⟨s', e, v, hv, rfl⟩ := loopF_map (b := bName 1) (p := b_must_be_alike_named_1) (f := fun x : List Int => PyData.list (x.map .int)) (l := [a, b]) (s := ⟨[.val (.list [.list (a.map .int), .list (b.map .int)]), .no], w⟩)
    (fun i s => ∃ v, (∀ ds, v ≠ Sl.own ds) ∧ s = ⟨[.val (.list [.list (a.map .int), .list (b.map .int)]), v], w⟩) ⟨.no, by simp, rfl⟩ (by
      rintro i x s hi ⟨v, _, rfl⟩
      have hx : Rank x := by
        have := List.mem_of_getElem? hi
        simp at this
        rcases this with rfl | rfl
        · exact ha
        · exact hb
      exact ⟨_, _, by simp -implicitDefEqProofs; rfl, by unfold b_must_be_alike_named_1; simp -implicitDefEqProofs [must_ranking_ok hx]; rfl, _, by simp, rfl⟩)
  have el : fLc (fLstI (fVar 0)) (bName 1) fYes e_must_be_alike_named_2 [1] ⟨[.val (.list [.list (a.map .int), .list (b.map .int)]), v], w⟩ = .ok (.new ([a, b].map fun x => .bool (decide (sortI x = sortI a)))) ⟨[.val (.list [.list (a.map .int), .list (b.map .int)]), v], w⟩ := by
    refine lc_all (fun x : List Int => ⟨[.val (.list [.list (a.map .int), .list (b.map .int)]), .val (.list (x.map .int))], w⟩) _ (f := fun x : List Int => PyData.list (x.map .int)) (l := [a, b]) (by simp -implicitDefEqProofs) (by simp) (by cases v <;> first | rfl | exact absurd rfl (hv _)) (fun a _ => by rfl) (fun a _ => by rfl) (fun x _ => ?_)
    unfold e_must_be_alike_named_2
    simp -implicitDefEqProofs
  unfold F_must_be_alike_named p_must_be_alike_named
  simp only [x_runF]
  simp -implicitDefEqProofs at e
  simp -implicitDefEqProofs [e, el, boolsD, sortI_perm_eq hp]
theorem unlike_ok {a b : List Int} {w : Pw} (ha : Rank a) (hp : b.Perm a) : F_unlike [.val (.list (a.map .int)), .val (.list (b.map .int))] w = .ok (.val (.int (manyI a b))) w := by
  unfold F_unlike p_unlike
  simp only [x_runF]
  simp -implicitDefEqProofs [alike_ok ha (ha.perm hp) hp, many_unlike_ok ha.2.2.2 fun x hx => hp.mem_iff.mpr hx]

end DL

noncomputable section
namespace DL
open PySem L2
def p_law_many : DSt → Flow := fRet (fOp (lift2 addO) (fC (.int 1)) (fUser F_law_draw (fCons (fVar 0) (fCons (fOp (lift2 ixO) (fLst (fCons (fC (.int 4)) (fCons (fC (.int 7)) (fCons (fC (.int 10)) fNil)))) (fUser F_law_draw (fCons (fVar 0) (fCons (fC (.int 3)) fNil)))) fNil))))
def F_law_many : List R → Pw → FRes := runF 1 1 p_law_many
theorem cutI_eq {α : Type} {xs : List α} {k : Nat} : cutI xs none (some (k : Int)) ++ (cutI xs (some (k : Int)) (some ((k : Int) + 2))).reverse ++ cutI xs (some ((k : Int) + 2)) none = xs.take k ++ ((xs.take (k + 2)).drop k).reverse ++ xs.drop (k + 2) := by
  have e : (k : Int) + 2 = ((k + 2 : Nat) : Int) := by omega
  rw [e, cut_to, cut_mid, cut_from]
theorem swap_perm {α : Type} (xs : List α) (k : Nat) : (xs.take k ++ ((xs.take (k + 2)).drop k).reverse ++ xs.drop (k + 2)).Perm xs := by
  have h1 : (xs.take k ++ ((xs.take (k + 2)).drop k).reverse ++ xs.drop (k + 2)).Perm (xs.take k ++ ((xs.take (k + 2)).drop k) ++ xs.drop (k + 2)) := ((List.Perm.refl _).append (List.reverse_perm _)).append (List.Perm.refl _)
  have h2 : xs.take k ++ ((xs.take (k + 2)).drop k) = xs.take (k + 2) := by
    have := List.take_append_drop k (xs.take (k + 2))
    rw [List.take_take, Nat.min_eq_left (by omega)] at this
    exact this
  rw [h2, List.take_append_drop] at h1
  exact h1
theorem many_ok {pa : Addr} {w : Pw} {m : Int} (h : WP pa w m) (hm : m < 2 ^ 59) : ∃ (n : Nat) (w' : Pw), F_law_many [.raw (.ref pa)] w = .ok (.val (.int n)) w' ∧ 1 ≤ n ∧ n ≤ 10 ∧ WP pa w' (m + 5000) := by
  obtain ⟨r1, w1, e1, r10, r11, q1⟩ := draw_ok (n := 3) h (by omega) (by omega) (by omega)
  obtain ⟨x, ex, hx, hx2⟩ : ∃ x : Int, atI [PyData.int 4, .int 7, .int 10] r1 = some (.int x) ∧ 1 ≤ x ∧ x ≤ 10 := by
    have : r1 = 0 ∨ r1 = 1 ∨ r1 = 2 := by omega
    rcases this with q | q | q <;> rw [q] <;> simp
  obtain ⟨r2, w2, e2, r20, r21, q2⟩ := draw_ok (n := x) q1 (by omega) (by omega) (by omega)
  refine ⟨(1 + r2).toNat, w2, ?_, by omega, by omega, q2.mono (by omega)⟩
  have e3 : (((1 + r2).toNat : Nat) : Int) = 1 + r2 := by omega
  rw [e3]
  unfold F_law_many p_law_many
  simp only [x_runF]
  simp -implicitDefEqProofs [e1, ex, e2]
def cntP (one other : List Int) (a b : Int) : Bool := decide (one.idxOf a < one.idxOf b ∧ other.idxOf b < other.idxOf a)
def cnt2 (one other : List Int) (a : Int) : Nat := (one.filter (cntP one other a)).length
theorem nodup_idx {ns : List Int} (h : ns.Nodup) {i : Nat} (hi : i < ns.length) : ns.idxOf (ns.getD i 0) = i := by
  have e : ns.getD i 0 = ns[i] := by simp [List.getD_eq_getElem?_getD, List.getElem?_eq_getElem hi]
  rw [e]
  exact h.idxOf_getElem i hi
theorem map_getD {ns : List Int} : ns = (List.range ns.length).map fun i => ns.getD i 0 := by
  apply List.ext_getElem
  · simp
  · intro i h1 h2
    simp [List.getD_eq_getElem?_getD, List.getElem?_eq_getElem h1]
theorem range_split {n k : Nat} (h : k < n) : List.range n = List.range (k + 1) ++ (List.range (n - (k + 1))).map fun j => k + 1 + j := by
  have e : n = (k + 1) + (n - (k + 1)) := by omega
  rw [e, List.range_add]
  simp
theorem counts {one other : List Int} (h : one.Nodup) (hp : other.Perm one) : manyI one other = (one.map (cnt2 one other)).sum := by
  have hs : ∀ x ∈ one, x ∈ other := fun x hx => hp.mem_iff.mpr hx
  have ho : other.Nodup := hp.nodup_iff.mpr h
  have key : ∀ k : Nat, k < one.length → (((List.range (one.length - (k + 1))).map fun j => (k, k + 1 + j)).map fun p : Nat × Nat => (one.getD p.1 0, one.getD p.2 0)).countP (fun p => !decide (other.idxOf p.1 < other.idxOf p.2)) = cnt2 one other (one.getD k 0) := by
    intro k hk
    unfold cnt2
    rw [← List.countP_eq_length_filter]
    obtain ⟨f, hf⟩ : ∃ f : Int → Bool, f = cntP one other (one.getD k 0) := ⟨_, rfl⟩
    rw [← hf]
    have e1 : one.countP f = ((List.range one.length).map fun i => one.getD i 0).countP f := by rw [← map_getD]
    rw [e1, range_split hk, List.map_append, List.countP_append, List.map_map, List.map_map, List.countP_map, List.countP_map, List.countP_map]
    have z : List.countP (f ∘ fun i => one.getD i 0) (List.range (k + 1)) = 0 := by
      rw [List.countP_eq_zero]
      intro i hi
      have hi : i < k + 1 := by simpa using hi
      have e2 := nodup_idx h (i := i) (by omega)
      have e3 := nodup_idx h (i := k) hk
      rw [hf]
      simp only [Function.comp, cntP, e2, e3]
      simp
      omega
    rw [z, Nat.zero_add]
    apply List.countP_congr
    intro j hj
    have hj : j < one.length - (k + 1) := by simpa using hj
    have e2 := nodup_idx h (i := k + 1 + j) (by omega)
    have e3 := nodup_idx h (i := k) hk
    have m1 : one.getD k 0 ∈ one := by
      simp only [List.getD_eq_getElem?_getD, List.getElem?_eq_getElem hk]
      exact List.getElem_mem _
    have m2 : one.getD (k + 1 + j) 0 ∈ one := by
      simp only [List.getD_eq_getElem?_getD, List.getElem?_eq_getElem (by omega : k + 1 + j < one.length)]
      exact List.getElem_mem _
    have ne : other.idxOf (one.getD k 0) ≠ other.idxOf (one.getD (k + 1 + j) 0) := by
      intro e
      have e4 := List.getElem_idxOf (List.idxOf_lt_length_iff.mpr (hs _ m1))
      have e5 := List.getElem_idxOf (List.idxOf_lt_length_iff.mpr (hs _ m2))
      have : one.getD k 0 = one.getD (k + 1 + j) 0 := by
        rw [← e4, ← e5]
        congr 1
      have := congrArg one.idxOf this
      rw [e2, e3] at this
      omega
    rw [hf]
    simp only [Function.comp, cntP, e2, e3, Bool.not_eq_true', decide_eq_false_iff_not, decide_eq_true_eq]
    omega
  unfold manyI pairsI places
  rw [← List.countP_eq_length_filter, List.map_flatMap, List.countP_flatMap]
  have : one.map (cnt2 one other) = (List.range one.length).map fun k => cnt2 one other (one.getD k 0) := by
    have e := congrArg (List.map (cnt2 one other)) (map_getD (ns := one))
    rw [List.map_map] at e
    exact e
  rw [this]
  congr 1
  apply List.map_congr_left
  intro k hk
  exact key k (by simpa using hk)

/-! ### twofold sums -/
theorem sum_map_le {α : Type} {l : List α} {f g : α → Nat} (h : ∀ x ∈ l, f x ≤ g x) : (l.map f).sum ≤ (l.map g).sum := by
  induction l with
  | nil => simp
  | cons a l ih =>
    have h1 := h a List.mem_cons_self
    have h2 := ih fun x hx => h x (List.mem_cons_of_mem _ hx)
    simp only [List.map_cons, List.sum_cons]
    omega
theorem sum_map_eq {α : Type} {l : List α} {f g : α → Nat} (h : ∀ x ∈ l, f x ≤ g x) : (l.map f).sum = (l.map g).sum ↔ ∀ x ∈ l, f x = g x := by
  induction l with
  | nil => simp
  | cons a l ih =>
    have h1 := h a List.mem_cons_self
    have h2 := sum_map_le fun x hx => h x (List.mem_cons_of_mem _ hx)
    have h3 := ih fun x hx => h x (List.mem_cons_of_mem _ hx)
    simp only [List.map_cons, List.sum_cons, List.forall_mem_cons, ← h3]
    omega
theorem sum_map_add {α : Type} {l : List α} {f g : α → Nat} : (l.map fun x => f x + g x).sum = (l.map f).sum + (l.map g).sum := by
  induction l with
  | nil => simp
  | cons a l ih =>
    simp only [List.map_cons, List.sum_cons, ih]
    omega
theorem sum_map_congr {α : Type} {l : List α} {f g : α → Nat} (h : ∀ x ∈ l, f x = g x) : (l.map f).sum = (l.map g).sum := by
  rw [List.map_congr_left h]
theorem sum_swap {α β : Type} {l : List α} {m : List β} {f : α → β → Nat} : (l.map fun x => (m.map (f x)).sum).sum = (m.map fun y => (l.map fun x => f x y).sum).sum := by
  induction l with
  | nil =>
    induction m with
    | nil => rfl
    | cons _ _ ih => simpa using ih
  | cons a l ih =>
    simp only [List.map_cons, List.sum_cons, ih, sum_map_add]
theorem sum_perm {α : Type} {l m : List α} {f : α → Nat} (h : l.Perm m) : (l.map f).sum = (m.map f).sum := by
  induction h with
  | nil => rfl
  | cons x _ ih => simp [ih]
  | swap x y l => simp only [List.map_cons, List.sum_cons]; omega
  | trans _ _ h1 h2 => rw [h1, h2]
def dbl (l : List Int) (f : Int → Int → Nat) : Nat := (l.map fun x => (l.map (f x)).sum).sum
theorem dbl_perm {l m : List Int} {f : Int → Int → Nat} (h : l.Perm m) : dbl l f = dbl m f := by
  unfold dbl
  rw [sum_perm h]
  exact sum_map_congr fun x _ => sum_perm h
theorem dbl_le {l : List Int} {f g : Int → Int → Nat} (h : ∀ x ∈ l, ∀ y ∈ l, f x y ≤ g x y) : dbl l f ≤ dbl l g := sum_map_le fun x hx => sum_map_le (h x hx)
theorem dbl_eq {l : List Int} {f g : Int → Int → Nat} (h : ∀ x ∈ l, ∀ y ∈ l, f x y ≤ g x y) : dbl l f = dbl l g ↔ ∀ x ∈ l, ∀ y ∈ l, f x y = g x y := by
  unfold dbl
  rw [sum_map_eq fun x hx => sum_map_le (h x hx)]
  exact ⟨fun k x hx => (sum_map_eq (h x hx)).mp (k x hx), fun k x hx => (sum_map_eq (h x hx)).mpr (k x hx)⟩
theorem dbl_congr {l : List Int} {f g : Int → Int → Nat} (h : ∀ x ∈ l, ∀ y ∈ l, f x y = g x y) : dbl l f = dbl l g := sum_map_congr fun x hx => sum_map_congr (h x hx)
theorem dbl_add {l : List Int} {f g : Int → Int → Nat} : dbl l (fun x y => f x y + g x y) = dbl l f + dbl l g := by
  unfold dbl
  rw [← sum_map_add]
  exact sum_map_congr fun x _ => sum_map_add
theorem dbl_swap {l : List Int} {f : Int → Int → Nat} : dbl l (fun x y => f y x) = dbl l f := by
  unfold dbl
  exact sum_swap (f := fun x y => f y x)
/-- x stands ahead of y -/
def ah (r : List Int) (x y : Int) : Bool := decide (r.idxOf x < r.idxOf y)
theorem idx_inj {r : List Int} {x y : Int} (hx : x ∈ r) (hy : y ∈ r) (h : r.idxOf x = r.idxOf y) : x = y := by
  have e4 := List.getElem_idxOf (List.idxOf_lt_length_iff.mpr hx)
  have e5 := List.getElem_idxOf (List.idxOf_lt_length_iff.mpr hy)
  rw [← e4, ← e5]
  congr 1
def uq (a b : List Int) (x y : Int) : Nat := if ah a x y = ah b x y then 0 else 1
theorem filter_sum {l : List Int} {p : Int → Bool} : (l.filter p).length = (l.map fun y => if p y = true then 1 else 0).sum := by
  induction l with
  | nil => rfl
  | cons a l ih =>
    cases h : p a <;> simp [h, ih] <;> omega
theorem many_dbl {a b : List Int} (ha : a.Nodup) (hp : b.Perm a) : 2 * manyI a b = dbl a (uq a b) := by
  have e1 : manyI a b = dbl a fun x y => if cntP a b x y = true then 1 else 0 := by
    rw [counts ha hp]
    unfold dbl
    exact sum_map_congr fun x _ => filter_sum
  have e2 : dbl a (uq a b) = dbl a fun x y => (if cntP a b x y = true then 1 else 0) + (if cntP a b y x = true then 1 else 0) := by
    refine dbl_congr fun x hx y hy => ?_
    unfold uq ah cntP
    by_cases e : x = y
    · subst e
      simp
    · have n1 : a.idxOf x ≠ a.idxOf y := fun h => e (idx_inj hx hy h)
      have n2 : b.idxOf x ≠ b.idxOf y := fun h => e (idx_inj (hp.mem_iff.mpr hx) (hp.mem_iff.mpr hy) h)
      rcases Nat.lt_or_gt_of_ne n1 with h1 | h1 <;> rcases Nat.lt_or_gt_of_ne n2 with h2 | h2 <;>
        simp [h1, h2, Nat.not_lt_of_gt h1, Nat.not_lt_of_gt h2]
  rw [e2, dbl_add, dbl_swap (f := fun x y => if cntP a b x y = true then 1 else 0), ← e1]
  omega
theorem tri_le {a m b : List Int} (ha : a.Nodup) (hm : m.Perm a) (hb : b.Perm a) : manyI a b ≤ manyI a m + manyI m b ∧ (manyI a m + manyI m b = manyI a b ↔ ∀ x ∈ a, ∀ y ∈ a, ah a x y = ah b x y → ah a x y = ah m x y) := by
  have e1 := many_dbl ha hb
  have e2 := many_dbl ha hm
  have e3 := many_dbl (hm.nodup_iff.mpr ha) (hb.trans hm.symm)
  rw [dbl_perm hm] at e3
  have pw : ∀ x ∈ a, ∀ y ∈ a, uq a b x y ≤ uq a m x y + uq m b x y := fun x _ y _ => by
    unfold uq
    cases ah a x y <;> cases ah b x y <;> cases ah m x y <;> simp
  have l1 := dbl_le pw
  have l2 := dbl_eq pw
  rw [dbl_add] at l1 l2
  refine ⟨by omega, ?_⟩
  have : manyI a m + manyI m b = manyI a b ↔ dbl a (uq a b) = dbl a (uq a m) + dbl a (uq m b) := by omega
  rw [this, l2]
  constructor
  · intro h x hx y hy e
    have := h x hx y hy
    unfold uq at this
    revert this e
    cases ah a x y <;> cases ah b x y <;> cases ah m x y <;> simp
  · intro h x hx y hy
    have := h x hx y hy
    unfold uq
    revert this
    cases ah a x y <;> cases ah b x y <;> cases ah m x y <;> simp
theorem pairs_iff {ns : List Int} (h : ns.Nodup) {p : Int × Int} : p ∈ pairsI ns ↔ p.1 ∈ ns ∧ p.2 ∈ ns ∧ ns.idxOf p.1 < ns.idxOf p.2 := by
  constructor
  · intro hp
    obtain ⟨m1, m2⟩ := pairs_mem hp
    refine ⟨m1, m2, ?_⟩
    unfold pairsI at hp
    simp only [List.mem_map] at hp
    obtain ⟨q, hq, rfl⟩ := hp
    have := places_lt hq
    simp only [nodup_idx h (by omega : q.1 < ns.length), nodup_idx h (by omega : q.2 < ns.length)]
    omega
  · rintro ⟨m1, m2, h3⟩
    have l2 := List.idxOf_lt_length_iff.mpr m2
    unfold pairsI
    rw [List.mem_map]
    refine ⟨(ns.idxOf p.1, ns.idxOf p.2), ?_, ?_⟩
    · unfold places
      simp only [List.mem_flatMap, List.mem_map, List.mem_range]
      exact ⟨ns.idxOf p.1, by omega, ns.idxOf p.2 - (ns.idxOf p.1 + 1), by omega, by simp; omega⟩
    · have e1 := List.getElem_idxOf (List.idxOf_lt_length_iff.mpr m1)
      have e2 := List.getElem_idxOf l2
      simp only [List.getD_eq_getElem?_getD, List.getElem?_eq_getElem (List.idxOf_lt_length_iff.mpr m1), List.getElem?_eq_getElem l2, e1, e2]
      rfl

end DL

noncomputable section
namespace DL
open PySem L2

/-! all orders -/
def insA (a : Int) (o : List Int) (p : Nat) : List Int := o.take p ++ (a :: o.drop p)
def insS (E : List (List Int)) (a : Int) : List (List Int) := E.flatMap fun o => (List.range (o.length + 1)).map (insA a o)
def ordL (N : List Int) : List (List Int) := N.foldl insS [[]]
theorem insA_perm {a : Int} {o : List Int} {p : Nat} : (insA a o p).Perm (a :: o) := by
  unfold insA
  refine List.perm_middle.trans ?_
  rw [List.take_append_drop]
theorem ordL_snoc {N : List Int} {a : Int} : ordL (N ++ [a]) = insS (ordL N) a := by unfold ordL; rw [List.foldl_append]; rfl
theorem snoc_of' {α : Type} (L : List α) : L = [] ∨ ∃ K z, L = K ++ [z] := by
  rcases List.eq_nil_or_concat L with h | ⟨K, z, h⟩
  · exact .inl h
  · exact .inr ⟨K, z, by rw [h, List.concat_eq_append]⟩
theorem mem_insS {E : List (List Int)} {a : Int} {x : List Int} : x ∈ insS E a ↔ ∃ o ∈ E, ∃ p, p ≤ o.length ∧ x = insA a o p := by
  unfold insS
  rw [List.mem_flatMap]
  constructor
  · rintro ⟨o, ho, h⟩
    obtain ⟨p, hp, rfl⟩ := List.mem_map.mp h
    exact ⟨o, ho, p, by have := List.mem_range.mp hp; omega, rfl⟩
  · rintro ⟨o, ho, p, hp, rfl⟩
    exact ⟨o, ho, List.mem_map.mpr ⟨p, List.mem_range.mpr (by omega), rfl⟩⟩
theorem mem_ordL : ∀ (n : Nat) (N q : List Int), N.length = n → (q ∈ ordL N ↔ q.Perm N)
  | 0, N, q, h => by
    rw [List.length_eq_zero_iff.mp h]
    simp [ordL]
  | n + 1, N, q, h => by
    obtain ⟨K, a, rfl⟩ := (snoc_of' N).resolve_left (by rintro rfl; simp at h)
    rw [ordL_snoc, mem_insS]
    constructor
    · rintro ⟨o, ho, p, hp, rfl⟩
      have := (mem_ordL n K o (by simpa using h)).mp ho
      exact (insA_perm.trans (this.cons a)).trans (List.perm_append_comm (l₁ := [a]) (l₂ := K))
    · intro hq
      have ma : a ∈ q := hq.mem_iff.mpr (by simp)
      obtain ⟨s, t, rfl⟩ := List.append_of_mem ma
      have h2 : (a :: (s ++ t)).Perm (a :: K) := List.perm_middle.symm.trans (hq.trans (List.perm_append_comm (l₁ := K) (l₂ := [a])))
      refine ⟨s ++ t, (mem_ordL n K _ (by simpa using h)).mpr (List.Perm.cons_inv h2), s.length, by simp, ?_⟩
      simp [insA]
theorem insA_idx {a : Int} {o : List Int} {p : Nat} (ha : a ∉ o) (hp : p ≤ o.length) : (insA a o p).idxOf a = p := by
  unfold insA
  rw [List.idxOf_append, if_neg fun h => ha (List.mem_of_mem_take h)]
  simp
  omega
theorem insA_erase {a : Int} {o : List Int} {p : Nat} (ha : a ∉ o) : (insA a o p).erase a = o := by
  unfold insA
  rw [List.erase_append_right _ fun h => ha (List.mem_of_mem_take h)]
  simp
theorem ordL_nodup : ∀ (n : Nat) (N : List Int), N.length = n → N.Nodup → (ordL N).Nodup
  | 0, N, h, _ => by
    rw [List.length_eq_zero_iff.mp h]
    simp [ordL]
  | n + 1, N, h, hn => by
    obtain ⟨K, a, rfl⟩ := (snoc_of' N).resolve_left (by rintro rfl; simp at h)
    have hK : a ∉ K := fun h => (List.nodup_append.mp hn).2.2 a h a List.mem_cons_self rfl
    have ih := ordL_nodup n K (by simpa using h) (List.nodup_append.mp hn).1
    have out : ∀ o ∈ ordL K, a ∉ o := fun o ho h2 => hK (((mem_ordL n K o (by simpa using h)).mp ho).mem_iff.mp h2)
    rw [ordL_snoc]
    unfold insS
    rw [List.Nodup, List.pairwise_flatMap]
    refine ⟨fun o ho => ?_, ?_⟩
    · rw [List.pairwise_map]
      refine List.Pairwise.imp_of_mem ?_ List.nodup_range
      intro p q hp hq hne e
      have h1 := List.mem_range.mp hp
      have h2 := List.mem_range.mp hq
      have := insA_idx (p := p) (out o ho) (by omega)
      rw [e, insA_idx (out o ho) (by omega)] at this
      exact hne this.symm
    · refine List.Pairwise.imp_of_mem ?_ ih
      intro o q ho hq hne x hx y hy e
      obtain ⟨p, _, rfl⟩ := List.mem_map.mp hx
      obtain ⟨p', _, rfl⟩ := List.mem_map.mp hy
      have := insA_erase (p := p) (out o ho)
      rw [e, insA_erase (out q hq)] at this
      exact hne this.symm
theorem insS_len {E : List (List Int)} {a : Int} {k : Nat} (h : ∀ o ∈ E, o.length = k) : (insS E a).length = E.length * (k + 1) := by
  unfold insS
  rw [List.length_flatMap]
  induction E with
  | nil => simp
  | cons o E ih =>
    rw [List.map_cons, List.sum_cons, ih fun o ho => h o (List.mem_cons_of_mem _ ho)]
    simp only [List.length_map, List.length_range, List.length_cons]
    rw [h o List.mem_cons_self, Nat.add_mul, Nat.one_mul, Nat.add_comm]
def fact : Nat → Nat
  | 0 => 1
  | n + 1 => fact n * (n + 1)
theorem ordL_len : ∀ (n : Nat) (N : List Int), N.length = n → (ordL N).length = fact n ∧ ∀ o ∈ ordL N, o.length = n
  | 0, N, h => by
    rw [List.length_eq_zero_iff.mp h]
    simp [ordL, fact]
  | n + 1, N, h => by
    have hm : ∀ o ∈ ordL N, o.length = n + 1 := fun o ho => by
      have := ((mem_ordL _ N o rfl).mp ho).length_eq
      omega
    obtain ⟨K, a, rfl⟩ := (snoc_of' N).resolve_left (by rintro rfl; simp at h)
    obtain ⟨h1, h2⟩ := ordL_len n K (by simpa using h)
    refine ⟨?_, hm⟩
    rw [ordL_snoc, insS_len h2, h1]
    rfl
theorem fact_le {n k : Nat} (h : n ≤ k) : fact n ≤ fact k := by
  induction h with
  | refl => exact Nat.le_refl _
  | step _ ih => exact Nat.le_trans ih (Nat.le_mul_of_pos_right _ (by omega))

end DL

noncomputable section
namespace DL
open PySem L2

/-! ### falling along a line: the plain law -/
/-- no hole in Q, of the line's names -/
def cvx (L Q : List Int) : Prop := ∀ u ∈ Q, ∀ v ∈ Q, ∀ t ∈ L, L.idxOf u < L.idxOf t → L.idxOf t < L.idxOf v → t ∈ Q
/-- no name that the ranking has behind two on both its sides -/
def noV (L r : List Int) : Prop := ∀ u ∈ L, ∀ t ∈ L, ∀ v ∈ L, L.idxOf u < L.idxOf t → L.idxOf t < L.idxOf v → ¬ (r.idxOf u < r.idxOf t ∧ r.idxOf v < r.idxOf t)
theorem mem_take_idx {r : List Int} {t : Int} {m : Nat} : t ∈ r.take m ↔ t ∈ r ∧ r.idxOf t < m := by
  induction r generalizing m with
  | nil => simp
  | cons a r ih =>
    cases m with
    | zero => simp
    | succ m =>
      rw [List.take_succ_cons, List.mem_cons, List.mem_cons, ih, List.idxOf_cons]
      by_cases h : t = a
      · subst h
        simp
      · have : (a == t) = false := by simpa using fun e => h e.symm
        rw [this]
        simp [h]
theorem noV_cvx {L r : List Int} (hp : L.Perm r) : noV L r ↔ ∀ m, cvx L (r.take m) := by
  constructor
  · intro h m u hu v hv t ht h1 h2
    rw [mem_take_idx] at hu hv ⊢
    refine ⟨hp.mem_iff.mp ht, ?_⟩
    have := h u (hp.mem_iff.mpr hu.1) t ht v (hp.mem_iff.mpr hv.1) h1 h2
    omega
  · intro h u hu t ht v hv h1 h2 h3
    have hc := h (max (r.idxOf u) (r.idxOf v) + 1) u (mem_take_idx.mpr ⟨hp.mem_iff.mp hu, by omega⟩) v (mem_take_idx.mpr ⟨hp.mem_iff.mp hv, by omega⟩) t ht h1 h2
    have := (mem_take_idx.mp hc).2
    omega
theorem noV_rev {L r : List Int} (hL : L.Nodup) : noV L.reverse r ↔ noV L r := by
  have ix : ∀ x ∈ L, L.reverse.idxOf x = L.length - 1 - L.idxOf x := fun x hx => by
    have hi := List.idxOf_lt_length_iff.mpr hx
    have e : L.getD (L.idxOf x) 0 = x := by
      simp only [List.getD_eq_getElem?_getD, List.getElem?_eq_getElem hi]
      exact List.getElem_idxOf hi
    have hr : L.reverse.Nodup := (List.reverse_perm L).nodup_iff.mpr hL
    have e2 : L.getD (L.idxOf x) 0 = L.reverse.getD (L.length - 1 - L.idxOf x) 0 := by
      simp only [List.getD_eq_getElem?_getD]
      rw [List.getElem?_reverse (by omega)]
      congr 2
      omega
    have := nodup_idx hr (i := L.length - 1 - L.idxOf x) (by simp; omega)
    rw [← e2, e] at this
    exact this
  unfold noV
  constructor
  · intro h u hu t ht v hv h1 h2 h3
    have lu := List.idxOf_lt_length_iff.mpr hu
    have lt := List.idxOf_lt_length_iff.mpr ht
    have lv := List.idxOf_lt_length_iff.mpr hv
    exact h v (by simpa using hv) t (by simpa using ht) u (by simpa using hu) (by rw [ix v hv, ix t ht]; omega) (by rw [ix t ht, ix u hu]; omega) ⟨h3.2, h3.1⟩
  · intro h u hu t ht v hv h1 h2 h3
    have hu : u ∈ L := by simpa using hu
    have ht : t ∈ L := by simpa using ht
    have hv : v ∈ L := by simpa using hv
    have lu := List.idxOf_lt_length_iff.mpr hu
    have lt := List.idxOf_lt_length_iff.mpr ht
    have lv := List.idxOf_lt_length_iff.mpr hv
    rw [ix u hu, ix t ht] at h1
    rw [ix t ht, ix v hv] at h2
    exact h v hv t ht u hu (by omega) (by omega) ⟨h3.2, h3.1⟩
/-- item by item -/
def goB (ok : List Int → Int → Bool) : List Int → List Int → Bool
  | _, [] => true
  | Q, a :: l => ok Q a && goB ok (Q ++ [a]) l
theorem goB_cvx {L : List Int} {ok : List Int → Int → Bool} : ∀ (l Q : List Int), (∀ (Q : List Int) (a : Int), Q ≠ [] → (Q ++ [a]).Nodup → (∀ x ∈ Q ++ [a], x ∈ L) → cvx L Q → (ok Q a = true ↔ cvx L (Q ++ [a]))) → Q ≠ [] → (Q ++ l).Nodup → (∀ x ∈ Q ++ l, x ∈ L) → cvx L Q → (goB ok Q l = true ↔ ∀ m, cvx L (Q ++ l.take m))
  | [], Q, _, _, _, _, hc => by simp [goB, hc]
  | a :: l, Q, h, h0, hn, hm, hc => by
    have e : Q ++ a :: l = (Q ++ [a]) ++ l := by simp
    have hn1 : (Q ++ [a]).Nodup := by
      rw [e] at hn
      exact (List.nodup_append.mp hn).1
    have hm1 : ∀ x ∈ Q ++ [a], x ∈ L := fun x hx => hm x (by rw [e]; exact List.mem_append_left _ hx)
    have k := h Q a h0 hn1 hm1 hc
    unfold goB
    rw [Bool.and_eq_true, k]
    constructor
    · rintro ⟨c1, c2⟩ m
      cases m with
      | zero => simpa using hc
      | succ m =>
        have := (goB_cvx l (Q ++ [a]) h (by simp) (by rw [← e]; exact hn) (by rw [← e]; exact hm) c1).mp c2 m
        simpa using this
    · intro c
      have c1 : cvx L (Q ++ [a]) := by simpa using c 1
      refine ⟨c1, (goB_cvx l (Q ++ [a]) h (by simp) (by rw [← e]; exact hn) (by rw [← e]; exact hm) c1).mpr fun m => ?_⟩
      simpa using c (m + 1)
/-! least and greatest places -/
def plI (L : List Int) (x : Int) : Int := (L.idxOf x : Nat)
theorem maxI_facts {l : List Int} (h : l ≠ []) : (∀ y ∈ l, y ≤ maxI l) ∧ maxI l ∈ l := by
  match l, h with
  | n :: ns, _ =>
    obtain ⟨h1, h2, h3⟩ := foldl_max_ge ns n
    refine ⟨fun y hy => ?_, ?_⟩
    · rcases List.mem_cons.mp hy with rfl | hy
      · exact h1
      · exact h2 y hy
    · rcases h3 with h3 | h3
      · show ns.foldl max n ∈ _
        rw [h3]
        exact List.mem_cons_self
      · exact List.mem_cons_of_mem _ h3
theorem minI_facts {l : List Int} (h : l ≠ []) : (∀ y ∈ l, minI l ≤ y) ∧ minI l ∈ l := by
  match l, h with
  | n :: ns, _ =>
    obtain ⟨h1, h2, h3⟩ := foldl_min_le ns n
    refine ⟨fun y hy => ?_, ?_⟩
    · rcases List.mem_cons.mp hy with rfl | hy
      · exact h1
      · exact h2 y hy
    · rcases h3 with h3 | h3
      · show ns.foldl min n ∈ _
        rw [h3]
        exact List.mem_cons_self
      · exact List.mem_cons_of_mem _ h3
theorem maxI_snoc {l : List Int} {p : Int} (h : l ≠ []) : maxI (l ++ [p]) = max (maxI l) p := by
  match l, h with
  | n :: ns, _ =>
    show (ns ++ [p]).foldl max n = _
    rw [List.foldl_append]
    rfl
theorem minI_snoc {l : List Int} {p : Int} (h : l ≠ []) : minI (l ++ [p]) = min (minI l) p := by
  match l, h with
  | n :: ns, _ =>
    show (ns ++ [p]).foldl min n = _
    rw [List.foldl_append]
    rfl
theorem at_place {L : List Int} (hL : L.Nodup) {k : Int} (h0 : 0 ≤ k) (h1 : k < L.length) : ∃ t ∈ L, plI L t = k := by
  have hk : k.toNat < L.length := by omega
  refine ⟨L.getD k.toNat 0, ?_, ?_⟩
  · simp only [List.getD_eq_getElem?_getD, List.getElem?_eq_getElem hk]
    exact List.getElem_mem _
  · unfold plI
    rw [nodup_idx hL hk]
    omega
theorem pl_lt {L : List Int} {x : Int} (h : x ∈ L) : 0 ≤ plI L x ∧ plI L x < L.length := by
  have := List.idxOf_lt_length_iff.mpr h
  unfold plI
  omega
theorem pl_inj {L : List Int} {x y : Int} (hx : x ∈ L) (hy : y ∈ L) (h : plI L x = plI L y) : x = y := idx_inj hx hy (by unfold plI at h; omega)
/-- a list without hole is a stretch -/
theorem stretch {L Q : List Int} (h0 : Q ≠ []) (hm : ∀ x ∈ Q, x ∈ L) (hc : cvx L Q) {t : Int} (ht : t ∈ L) : t ∈ Q ↔ minI (Q.map (plI L)) ≤ plI L t ∧ plI L t ≤ maxI (Q.map (plI L)) := by
  have hne : Q.map (plI L) ≠ [] := by simpa using h0
  obtain ⟨a1, a2⟩ := minI_facts hne
  obtain ⟨b1, b2⟩ := maxI_facts hne
  constructor
  · intro h
    have := List.mem_map_of_mem (f := plI L) h
    exact ⟨a1 _ this, b1 _ this⟩
  · rintro ⟨h1, h2⟩
    obtain ⟨u, hu, eu⟩ := List.mem_map.mp a2
    obtain ⟨v, hv, ev⟩ := List.mem_map.mp b2
    by_cases e1 : plI L u = plI L t
    · rw [← pl_inj (hm u hu) ht e1]
      exact hu
    · by_cases e2 : plI L v = plI L t
      · rw [← pl_inj (hm v hv) ht e2]
        exact hv
      · refine hc u hu v hv t ht ?_ ?_ <;> unfold plI at * <;> omega
def ok1 (L : List Int) (Q : List Int) (a : Int) : Bool := decide (plI L a = minI (Q.map (plI L)) - 1) || decide (plI L a = maxI (Q.map (plI L)) + 1)
theorem ok1_cvx {L : List Int} (hL : L.Nodup) (Q : List Int) (a : Int) (h0 : Q ≠ []) (hn : (Q ++ [a]).Nodup) (hm : ∀ x ∈ Q ++ [a], x ∈ L) (hc : cvx L Q) : ok1 L Q a = true ↔ cvx L (Q ++ [a]) := by
  have hmQ : ∀ x ∈ Q, x ∈ L := fun x hx => hm x (List.mem_append_left _ hx)
  have ha : a ∈ L := hm a (by simp)
  have st := fun {t : Int} (ht : t ∈ L) => stretch h0 hmQ hc ht
  have naQ : a ∉ Q := fun h => by
    have := (List.nodup_append.mp hn).2.2 a h a (by simp)
    exact this rfl
  have hne : Q.map (plI L) ≠ [] := by simpa using h0
  obtain ⟨a1, a2⟩ := minI_facts hne
  obtain ⟨b1, b2⟩ := maxI_facts hne
  obtain ⟨u0, hu0, eu0⟩ := List.mem_map.mp a2
  obtain ⟨v0, hv0, ev0⟩ := List.mem_map.mp b2
  have out := fun h => naQ ((st ha).mpr h)
  have lohi : minI (Q.map (plI L)) ≤ maxI (Q.map (plI L)) := b1 _ a2
  obtain ⟨lo, hlo⟩ : ∃ lo, lo = minI (Q.map (plI L)) := ⟨_, rfl⟩
  obtain ⟨hi, hhi⟩ : ∃ hi, hi = maxI (Q.map (plI L)) := ⟨_, rfl⟩
  rw [← hlo, ← hhi] at st out lohi
  rw [← hlo] at eu0
  rw [← hhi] at ev0
  unfold ok1
  rw [← hlo, ← hhi]
  simp only [Bool.or_eq_true, decide_eq_true_eq]
  constructor
  · intro h u hu v hv t ht h1 h2
    rw [List.mem_append, List.mem_singleton] at hu hv ⊢
    have h1' : plI L u < plI L t := by unfold plI; omega
    have h2' : plI L t < plI L v := by unfold plI; omega
    rcases hu with hu | rfl <;> rcases hv with hv | rfl
    · exact .inl (hc u hu v hv t ht h1 h2)
    · have q := (st (hmQ u hu)).mp hu
      left
      rw [st ht]
      omega
    · have q := (st (hmQ v hv)).mp hv
      left
      rw [st ht]
      omega
    · omega
  · intro h
    refine Classical.byContradiction fun hno => ?_
    have pa := pl_lt ha
    have pu := pl_lt (hmQ u0 hu0)
    have pv := pl_lt (hmQ v0 hv0)
    by_cases hl : plI L a < lo
    · obtain ⟨t, ht, et⟩ := at_place hL (k := lo - 1) (by omega) (by omega)
      have := h a (by simp) u0 (List.mem_append_left _ hu0) t ht (by unfold plI at *; omega) (by unfold plI at *; omega)
      rw [List.mem_append, List.mem_singleton] at this
      rcases this with q | rfl
      · have := (st ht).mp q
        omega
      · omega
    · have hgt : hi < plI L a := by
        by_cases z : plI L a ≤ hi
        · exact (out ⟨by omega, z⟩).elim
        · omega
      obtain ⟨t, ht, et⟩ := at_place hL (k := hi + 1) (by omega) (by omega)
      have := h v0 (List.mem_append_left _ hv0) a (by simp) t ht (by unfold plI at *; omega) (by unfold plI at *; omega)
      rw [List.mem_append, List.mem_singleton] at this
      rcases this with q | rfl
      · have := (st ht).mp q
        omega
      · omega
theorem sub_len : ∀ (l m : List Int), l.Nodup → (∀ x ∈ l, x ∈ m) → l.length ≤ m.length
  | [], _, _, _ => by simp
  | a :: l, m, hn, h => by
    have ha := h a List.mem_cons_self
    have hp := (List.perm_cons_erase ha).length_eq
    have := sub_len l (m.erase a) (List.nodup_cons.mp hn).2 fun x hx => by
      have ne : x ≠ a := fun e => (List.nodup_cons.mp hn).1 (e ▸ hx)
      exact (List.mem_erase_of_ne ne).mpr (h x (List.mem_cons_of_mem _ hx))
    simp only [List.length_cons] at hp ⊢
    omega
/-- pigeons: as many places as from the least to the greatest, just where no hole is -/
theorem pigeon : ∀ (l : List Int) (lo : Int) (n : Nat), l.Nodup → (∀ x ∈ l, lo ≤ x ∧ x < lo + n) → l.length ≤ n ∧ (l.length = n → ∀ x, lo ≤ x → x < lo + n → x ∈ l) := by
  intro l lo n
  induction n generalizing l with
  | zero =>
    intro _ h
    cases l with
    | nil => exact ⟨by simp, fun _ x h1 h2 => by omega⟩
    | cons a l => have := h a List.mem_cons_self; omega
  | succ n ih =>
    intro hn h
    by_cases hm : (lo + n) ∈ l
    · have hp := List.perm_cons_erase hm
      have hn2 : (l.erase (lo + n)).Nodup := hn.erase _
      obtain ⟨q1, q2⟩ := ih (l.erase (lo + n)) hn2 fun x hx => by
        have hx1 := List.mem_of_mem_erase hx
        have := h x hx1
        have ne : x ≠ lo + n := fun e => by
          subst e
          exact (hn.not_mem_erase) hx
        omega
      have hl := hp.length_eq
      rw [List.length_cons] at hl
      refine ⟨by omega, fun e x h1 h2 => ?_⟩
      by_cases ex : x = lo + n
      · rw [ex]; exact hm
      · exact List.mem_of_mem_erase (q2 (by omega) x h1 (by omega))
    · obtain ⟨q1, q2⟩ := ih l hn fun x hx => by
        have := h x hx
        have ne : x ≠ lo + n := fun e => hm (e ▸ hx)
        omega
      exact ⟨by omega, fun e => by omega⟩
def ok2 (L : List Int) (Q : List Int) (a : Int) : Bool := decide (maxI ((Q ++ [a]).map (plI L)) - minI ((Q ++ [a]).map (plI L)) = ((Q ++ [a]).length : Int) - 1)
theorem nodup_pl {L Q : List Int} (hn : Q.Nodup) (hm : ∀ x ∈ Q, x ∈ L) : (Q.map (plI L)).Nodup := by
  induction Q with
  | nil => exact List.nodup_nil
  | cons a Q ih =>
    have h := List.nodup_cons.mp hn
    rw [List.map_cons, List.nodup_cons]
    refine ⟨fun hx => ?_, ih h.2 fun x hx => hm x (List.mem_cons_of_mem _ hx)⟩
    obtain ⟨y, hy, e⟩ := List.mem_map.mp hx
    exact h.1 (pl_inj (hm a List.mem_cons_self) (hm y (List.mem_cons_of_mem _ hy)) e.symm ▸ hy)
theorem ok2_cvx {L : List Int} (hL : L.Nodup) (Q : List Int) (a : Int) (hn : (Q ++ [a]).Nodup) (hm : ∀ x ∈ Q ++ [a], x ∈ L) : ok2 L Q a = true ↔ cvx L (Q ++ [a]) := by
  obtain ⟨P, hP⟩ : ∃ P, P = Q ++ [a] := ⟨_, rfl⟩
  unfold ok2
  rw [← hP] at hn hm ⊢
  have h0 : P ≠ [] := by rw [hP]; simp
  have hne : P.map (plI L) ≠ [] := by simpa using h0
  obtain ⟨a1, a2⟩ := minI_facts hne
  obtain ⟨b1, b2⟩ := maxI_facts hne
  have hnd := nodup_pl hn hm
  have lohi : minI (P.map (plI L)) ≤ maxI (P.map (plI L)) := b1 _ a2
  obtain ⟨n, en⟩ : ∃ n : Nat, (n : Int) = maxI (P.map (plI L)) - minI (P.map (plI L)) + 1 := ⟨(maxI (P.map (plI L)) - minI (P.map (plI L)) + 1).toNat, by omega⟩
  obtain ⟨p1, p2⟩ := pigeon (P.map (plI L)) (minI (P.map (plI L))) n hnd fun x hx => by
    have := a1 x hx
    have := b1 x hx
    omega
  rw [List.length_map] at p1 p2
  rw [decide_eq_true_eq]
  constructor
  · intro e u hu v hv t ht h1 h2
    have u1 := a1 _ (List.mem_map_of_mem (f := plI L) hu)
    have v1 := b1 _ (List.mem_map_of_mem (f := plI L) hv)
    have h1' : plI L u < plI L t := by unfold plI; omega
    have h2' : plI L t < plI L v := by unfold plI; omega
    have := p2 (by omega) (plI L t) (by omega) (by omega)
    obtain ⟨y, hy, ey⟩ := List.mem_map.mp this
    rw [← pl_inj (hm y hy) ht ey]
    exact hy
  · intro hc
    have le : n ≤ P.length := by
      have fill : ∀ k : Nat, k < n → minI (P.map (plI L)) + k ∈ P.map (plI L) := fun k hk => by
        obtain ⟨u, hu, eu⟩ := List.mem_map.mp a2
        obtain ⟨v, hv, ev⟩ := List.mem_map.mp b2
        have pu := pl_lt (hm u hu)
        have pv := pl_lt (hm v hv)
        obtain ⟨t, ht, et⟩ := at_place hL (k := minI (P.map (plI L)) + k) (by omega) (by omega)
        rw [← et]
        exact List.mem_map_of_mem ((stretch h0 hm hc ht).mpr (by omega))
      have nd : ((List.range n).map fun k : Nat => minI (P.map (plI L)) + (k : Int)).Nodup := by
        rw [List.nodup_iff_pairwise_ne, List.pairwise_map]
        exact List.nodup_range.imp fun h e => h (by omega)
      have sub : ∀ x ∈ (List.range n).map fun k : Nat => minI (P.map (plI L)) + (k : Int), x ∈ P.map (plI L) := fun x hx => by
        obtain ⟨k, hk, rfl⟩ := List.mem_map.mp hx
        exact fill k (by simpa using hk)
      have := sub_len _ _ nd sub
      simpa using this
    omega

end DL

noncomputable section
namespace DL
open PySem L2
def p_is_line : DSt → Flow := fRet (fUser F_is_ranking (fCons (fVar 0) fNil))
def F_is_line : List R → Pw → FRes := runF 1 1 p_is_line
def p_must_be_line : DSt → Flow := fIfS (fNot (fB (fUser F_is_line (fCons (fVar 0) fNil)))) (fRaise "NoLine") fnext
def F_must_be_line : List R → Pw → FRes := runF 1 1 p_must_be_line
def p_must_be_on : DSt → Flow := fseq (fDrop (fUser F_must_be_line (fCons (fVar 0) fNil))) (fseq (fDrop (fUser F_must_be_ranking (fCons (fVar 1) fNil))) (fIfS (fB (fOp (lift2 neO) (fCall sortedO (pCons (fVar 0) fNil)) (fCall sortedO (pCons (fVar 1) fNil)))) (fRaise "NoFit") fnext))
def F_must_be_on : List R → Pw → FRes := runF 2 2 p_must_be_on
def b_does_fall_1 : DSt → Flow := fseq (fSet 5 (fIndex (fVar 0) (fVar 4))) (fseq (fIfS (fAnd (fB (fOp (lift2 neO) (fVar 5) (fOp (lift2 subO) (fVar 2) (fC (.int 1))))) (fB (fOp (lift2 neO) (fVar 5) (fOp (lift2 addO) (fVar 3) (fC (.int 1)))))) (fRet (fC (.bool false))) fnext) (fseq (fSet 2 (fCall minO (pCons (fVar 2) (pCons (fVar 5) fNil)))) (fSet 3 (fCall maxO (pCons (fVar 3) (pCons (fVar 5) fNil))))))
abbrev o_does_fall_1 : List PyData → DSt → Flow := loopF (bName 4) b_does_fall_1
def p_does_fall : DSt → Flow := fseq (fSet 2 (fIndex (fVar 0) (fOp (lift2 ixO) (fVar 1) (fC (.int 0))))) (fseq (fSet 3 (fVar 2)) (fseq (fFor (fLstI (fSlice (fVar 1) (fPart (fC (.int 1))) fNoPart)) (bName 4) b_does_fall_1) (fRet (fC (.bool true)))))
def F_does_fall : List R → Pw → FRes := runF 6 2 p_does_fall
def p_falls : DSt → Flow := fseq (fDrop (fUser F_must_be_on (fCons (fVar 0) (fCons (fVar 1) fNil)))) (fRet (fUser F_does_fall (fCons (fVar 0) (fCons (fVar 1) fNil))))
def F_falls : List R → Pw → FRes := runF 2 2 p_falls
def b_law_falls_1 : DSt → Flow := fseq (fDrop (fApp 2 (fIndex (fVar 0) (fVar 3)))) (fIfS (fB (fOp (lift2 neO) (fOp (lift2 subO) (fCall maxO (pCons (fVar 2) fNil)) (fCall minO (pCons (fVar 2) fNil))) (fOp (lift2 subO) (fCall lenO (pCons (fVar 2) fNil)) (fC (.int 1))))) (fRet (fC (.bool false))) fnext)
abbrev o_law_falls_1 : List PyData → DSt → Flow := loopF (bName 3) b_law_falls_1
def p_law_falls : DSt → Flow := fseq (fSet 2 (fLst fNil)) (fseq (fFor (fLstI (fVar 1)) (bName 3) b_law_falls_1) (fRet (fC (.bool true))))
def F_law_falls : List R → Pw → FRes := runF 4 2 p_law_falls
def c_law_falling_1 : M Bool := fB (fOp (lift2 neO) (fVar 2) (fLst fNil))
def b_law_falling_2 : DSt → Flow := fDrop (fApp 3 (fPopAt 2 (fOp (lift2 mulO) (fOp (lift2 subO) (fCall lenO (pCons (fVar 2) fNil)) (fC (.int 1))) (fUser F_law_draw (fCons (fVar 0) (fCons (fC (.int 2)) fNil))))))
abbrev o_law_falling_2 : DSt → Flow := whileF c_law_falling_1 b_law_falling_2 10000
def p_law_falling : DSt → Flow := fseq (fSet 2 (fCall listO (pCons (fVar 1) fNil))) (fseq (fSet 3 (fLst fNil)) (fseq (whileF c_law_falling_1 b_law_falling_2 10000) (fRet (fUn (lift1 revO) (fVar 3)))))
def F_law_falling : List R → Pw → FRes := runF 4 2 p_law_falling
theorem must_line_ok {ns : List Int} {w : Pw} (h : Rank ns) : F_must_be_line [.val (.list (ns.map .int))] w = .ok (.val .none) w := by
  have e : F_is_line [.val (.list (ns.map .int))] w = .ok (.val (.bool true)) w := by
    unfold F_is_line p_is_line
    simp only [x_runF]
    simp -implicitDefEqProofs [is_ranking_ok h]
  unfold F_must_be_line p_must_be_line
  simp only [x_runF]
  simp -implicitDefEqProofs [e]
theorem must_on_ok {L r : List Int} {w : Pw} (hL : Rank L) (hp : r.Perm L) : F_must_be_on [.val (.list (L.map .int)), .val (.list (r.map .int))] w = .ok (.val .none) w := by
  unfold F_must_be_on p_must_be_on
  simp only [x_runF]
  simp -implicitDefEqProofs [must_line_ok hL, must_ranking_ok (hL.perm hp), sortI_perm_eq hp]
theorem goB_foldS {β : Type} {ok : List Int → Int → Bool} {step : β → Int → Sum β R} {st : List Int → β} {r : R} : ∀ (l Q : List Int), (∀ Q a, Q ≠ [] → step (st Q) a = if ok Q a = true then .inl (st (Q ++ [a])) else .inr r) → Q ≠ [] → foldS step (st Q) l = if goB ok Q l = true then .inl (st (Q ++ l)) else .inr r
  | [], Q, _, _ => by simp [foldS, goB]
  | a :: l, Q, h, h0 => by
    have ih := goB_foldS l (Q ++ [a]) h (by simp)
    unfold foldS goB
    rw [h Q a h0]
    cases k : ok Q a with
    | true =>
      simp only [if_true, Bool.true_and]
      rw [ih]
      simp
    | false => simp
/-- falls or not, decided -/
def fallB (L r : List Int) : Bool := @decide (noV L r) (Classical.propDecidable _)
theorem fallB_iff {L r : List Int} : fallB L r = true ↔ noV L r := by unfold fallB; simp
theorem cvx_one {L : List Int} {x : Int} : cvx L [x] := by
  intro u hu v hv t ht h1 h2
  simp at hu hv
  subst hu hv
  omega
theorem goB_fall {L r : List Int} {x : Int} {l : List Int} {ok : List Int → Int → Bool} (hL : L.Nodup) (hp : r.Perm L) (hr : r = x :: l) (h : ∀ (Q : List Int) (a : Int), Q ≠ [] → (Q ++ [a]).Nodup → (∀ x ∈ Q ++ [a], x ∈ L) → cvx L Q → (ok Q a = true ↔ cvx L (Q ++ [a]))) : goB ok [x] l = fallB L r := by
  rw [Bool.eq_iff_iff, fallB_iff, noV_cvx hp.symm, hr]
  have hn : ([x] ++ l).Nodup := by
    have := hp.nodup_iff.mpr hL
    rw [hr] at this
    exact this
  have hm : ∀ y ∈ [x] ++ l, y ∈ L := fun y hy => hp.mem_iff.mp (by rw [hr]; exact hy)
  rw [goB_cvx l [x] h (by simp) hn hm cvx_one]
  constructor
  · intro k m
    cases m with
    | zero =>
      intro u hu
      simp at hu
    | succ m => simpa using k m
  · intro k m
    simpa using k (m + 1)
theorem does_fall_ok {L r : List Int} {w : Pw} (hL : Rank L) (hp : r.Perm L) : F_does_fall [.val (.list (L.map .int)), .val (.list (r.map .int))] w = .ok (.val (.bool (fallB L r))) w := by
  obtain ⟨x, l, hr⟩ : ∃ x l, r = x :: l := by
    cases r with
    | nil => have := hp.length_eq; have := hL.2.2.1; simp at *; omega
    | cons x l => exact ⟨x, l, rfl⟩
  have hx : x ∈ L := hp.mem_iff.mp (by rw [hr]; simp)
  have hl : ∀ y ∈ l, y ∈ L := fun y hy => hp.mem_iff.mp (by rw [hr]; exact List.mem_cons_of_mem _ hy)
  have key := loopS (b := bName 4) (p := b_does_fall_1) (f := .int) (l := l) (s := ⟨[.val (.list (L.map .int)), .val (.list (r.map .int)), .val (.int (plI L x)), .val (.int (plI L x)), .no, .no], w⟩) (x := (plI L x, plI L x))
    (fun (s : Int × Int) a => if (decide (plI L a = s.1 - 1) || decide (plI L a = s.2 + 1)) = true then .inl (min s.1 (plI L a), max s.2 (plI L a)) else .inr (.val (.bool false)))
    (fun z s => ∃ v4 v5, s = ⟨[.val (.list (L.map .int)), .val (.list (r.map .int)), .val (.int z.1), .val (.int z.2), v4, v5], w⟩) (fun _ s => s.w = w) ⟨_, _, rfl⟩ (by
      rintro a ha ⟨lo, hi⟩ s ⟨v4, v5, rfl⟩
      have hi' := idxO_mem (hl a ha)
      unfold b_does_fall_1
      by_cases h1 : plI L a = lo - 1
      · have e1 : ((L.idxOf a : Nat) : Int) = lo - 1 := h1
        refine ⟨fun y e => ?_, fun q e => ?_⟩
        · simp [h1] at e
          subst e
          simp -implicitDefEqProofs [hi', e1]
          constructor <;> split <;> omega
        · simp [h1] at e
      · by_cases h2 : plI L a = hi + 1
        · have e2 : ((L.idxOf a : Nat) : Int) = hi + 1 := h2
          refine ⟨fun y e => ?_, fun q e => ?_⟩
          · simp [h2] at e
            subst e
            simp -implicitDefEqProofs [hi', e2]
            constructor <;> split <;> omega
          · simp [h2] at e
        · have e1 : ¬ ((L.idxOf a : Nat) : Int) = lo - 1 := h1
          have e2 : ¬ ((L.idxOf a : Nat) : Int) = hi + 1 := h2
          refine ⟨fun y e => ?_, fun q e => ?_⟩
          · simp [h1, h2] at e
          · simp [h1, h2] at e
            subst e
            simp -implicitDefEqProofs [hi', e1, e2])
  have ef : foldS _ (plI L x, plI L x) l = _ := goB_foldS (ok := ok1 L) (st := fun Q => (minI (Q.map (plI L)), maxI (Q.map (plI L)))) (r := .val (.bool false)) (step := fun (s : Int × Int) a => if (decide (plI L a = s.1 - 1) || decide (plI L a = s.2 + 1)) = true then .inl (min s.1 (plI L a), max s.2 (plI L a)) else .inr (.val (.bool false))) l [x] (fun Q a h0 => by
    have hne : Q.map (plI L) ≠ [] := by simpa using h0
    simp only [List.map_append, List.map_cons, List.map_nil, minI_snoc hne, maxI_snoc hne]
    rfl) (by simp)
  rw [goB_fall hL.1 hp hr fun Q a h0 hn hm hc => ok1_cvx hL.1 Q a h0 hn hm hc] at ef
  rw [ef] at key
  have ix := idxO_mem hx
  have at0 : atI (r.map PyData.int) 0 = some (.int x) := by rw [hr]; simp
  have cu : cutI r (some 1) none = l := by
    rw [hr]
    exact cut_from (k := 1)
  unfold F_does_fall p_does_fall
  simp only [x_runF]
  cases k : fallB L r with
  | true =>
    obtain ⟨s', e, v4, v5, rfl⟩ := key.1 _ (by rw [k]; rfl)
    have e' : loopF (bName 4) b_does_fall_1 (l.map .int) ⟨[.val (.list (L.map .int)), .val (.list (r.map .int)), .val (.int ((L.idxOf x : Nat) : Int)), .val (.int ((L.idxOf x : Nat) : Int)), .no, .no], w⟩ = _ := e
    simp -implicitDefEqProofs [at0, -atI_0, ix, cutD_map, cu, e']
  | false =>
    obtain ⟨s', e, hw⟩ := key.2 _ (by rw [k]; rfl)
    have e' : loopF (bName 4) b_does_fall_1 (l.map .int) ⟨[.val (.list (L.map .int)), .val (.list (r.map .int)), .val (.int ((L.idxOf x : Nat) : Int)), .val (.int ((L.idxOf x : Nat) : Int)), .no, .no], w⟩ = _ := e
    simp -implicitDefEqProofs [at0, -atI_0, ix, cutD_map, cu, e', hw]
theorem falls_ok {L r : List Int} {w : Pw} (hL : Rank L) (hp : r.Perm L) : F_falls [.val (.list (L.map .int)), .val (.list (r.map .int))] w = .ok (.val (.bool (fallB L r))) w := by
  unfold F_falls p_falls
  simp only [x_runF]
  simp -implicitDefEqProofs [must_on_ok hL hp, does_fall_ok hL hp]
theorem law_falls_ok {L r : List Int} {w : Pw} (hL : Rank L) (hp : r.Perm L) : F_law_falls [.val (.list (L.map .int)), .val (.list (r.map .int))] w = .ok (.val (.bool (fallB L r))) w := by
  obtain ⟨x, l, hr⟩ : ∃ x l, r = x :: l := by
    cases r with
    | nil => have := hp.length_eq; have := hL.2.2.1; simp at *; omega
    | cons x l => exact ⟨x, l, rfl⟩
  have rl : r.length ≤ 10 := by rw [hp.length_eq]; exact hL.2.2.2
  have rm : ∀ y ∈ r, y ∈ L := fun y hy => hp.mem_iff.mp hy
  have key := loopSi (b := bName 3) (p := b_law_falls_1) (f := .int) (l := r) (s := ⟨[.val (.list (L.map .int)), .val (.list (r.map .int)), .own [], .no], w⟩) (x := ([] : List Int)) (fun Q a => if ok2 L Q a = true then .inl (Q ++ [a]) else .inr (.val (.bool false)))
    (fun i Q s => Q.length = i ∧ ∃ v3, s = ⟨[.val (.list (L.map .int)), .val (.list (r.map .int)), .own ((Q.map (plI L)).map .int), v3], w⟩) (fun _ s => s.w = w) ⟨rfl, _, rfl⟩ (by
      rintro i a hi ha Q s ⟨rfl, v3, rfl⟩
      have hir : Q.length < r.length := (List.getElem?_eq_some_iff.mp hi).1
      have ix := idxO_mem (rm a ha)
      have hlt : ltS Q.length := size_lt (by omega)
      have em : (Q.map (plI L)).map PyData.int ++ [PyData.int ((L.idxOf a : Nat) : Int)] = ((Q ++ [a]).map (plI L)).map .int := by simp [plI]
      obtain ⟨P, hP⟩ : ∃ P, P = (Q ++ [a]).map (plI L) := ⟨_, rfl⟩
      have hP0 : P ≠ [] := by rw [hP]; simp
      have hPl : P.length = Q.length + 1 := by rw [hP]; simp
      have mx := max_ints hP0
      have mn := min_ints hP0
      rw [← hP] at em
      have e2 : ok2 L Q a = decide (maxI P - minI P = (P.length : Int) - 1) := by
        unfold ok2
        rw [← hP, hPl]
        simp
      rw [e2]
      unfold b_law_falls_1
      by_cases h1 : maxI P - minI P = (P.length : Int) - 1
      · refine ⟨fun y e => ?_, fun q e => ?_⟩
        · simp [h1] at e
          subst e
          simp -implicitDefEqProofs [ix, hlt, em, -List.map_map, mx, mn, h1, -List.map_append]
          rw [hP]
        · simp [h1] at e
      · refine ⟨fun y e => ?_, fun q e => ?_⟩
        · simp [h1] at e
        · simp [h1] at e
          subst e
          simp -implicitDefEqProofs [ix, hlt, em, -List.map_map, mx, mn, h1])
  have e1 : foldS (fun (Q : List Int) a => if ok2 L Q a = true then Sum.inl (Q ++ [a]) else Sum.inr (R.val (.bool false))) [] r = if fallB L r = true then .inl r else .inr (.val (.bool false)) := by
    have h1 : ok2 L [] x = true := by
      rw [ok2_cvx hL.1 [] x (by simp) (fun y hy => by simp at hy; subst hy; exact rm y (by rw [hr]; simp))]
      exact cvx_one
    have ef := goB_foldS (ok := ok2 L) (st := fun Q => Q) (r := .val (.bool false)) (step := fun (Q : List Int) a => if ok2 L Q a = true then .inl (Q ++ [a]) else .inr (.val (.bool false))) l [x] (fun Q a _ => rfl) (by simp)
    rw [goB_fall hL.1 hp hr fun Q a h0 hn hm hc => ok2_cvx hL.1 Q a hn hm] at ef
    rw [hr]
    conv => lhs; unfold foldS
    simp only [h1, if_true, List.nil_append]
    rw [← hr]
    rw [ef, hr]
    rfl
  rw [e1] at key
  unfold F_law_falls p_law_falls
  simp only [x_runF]
  cases k : fallB L r with
  | true =>
    obtain ⟨s', e, _, v3, rfl⟩ := key.1 _ (by rw [k]; rfl)
    simp -implicitDefEqProofs [e]
  | false =>
    obtain ⟨s', e, hw⟩ := key.2 _ (by rw [k]; rfl)
    simp -implicitDefEqProofs [e, hw]

end DL

noncomputable section
namespace DL
open PySem L2

/-! rankings that fall, taken from the ends -/
def pick : List Int → List Bool → List Int
  | L, [] => L
  | L, b :: bs => match b with
    | false => L.take 1 ++ pick (L.drop 1) bs
    | true => L.drop (L.length - 1) ++ pick L.dropLast bs
theorem snoc_of {α : Type} (L : List α) : L = [] ∨ ∃ K z, L = K ++ [z] := by
  rcases List.eq_nil_or_concat L with h | ⟨K, z, h⟩
  · exact .inl h
  · exact .inr ⟨K, z, by rw [h, List.concat_eq_append]⟩
theorem pick_nil {L : List Int} : pick L [] = L := rfl
theorem pick_false {a : Int} {L : List Int} {bs : List Bool} : pick (a :: L) (false :: bs) = a :: pick L bs := rfl
theorem pick_true {z : Int} {L : List Int} {bs : List Bool} : pick (L ++ [z]) (true :: bs) = z :: pick L bs := by
  show (L ++ [z]).drop ((L ++ [z]).length - 1) ++ pick (L ++ [z]).dropLast bs = _
  rw [List.dropLast_concat]
  simp
theorem pick_perm : ∀ (bs : List Bool) (L : List Int), (pick L bs).Perm L
  | [], L => .refl _
  | false :: bs, L => by
    show (L.take 1 ++ pick (L.drop 1) bs).Perm L
    have := (pick_perm bs (L.drop 1)).append_left (L.take 1)
    rwa [List.take_append_drop] at this
  | true :: bs, L => by
    show (L.drop (L.length - 1) ++ pick L.dropLast bs).Perm L
    have h1 := (pick_perm bs L.dropLast).append_left (L.drop (L.length - 1))
    refine h1.trans (List.perm_append_comm.trans ?_)
    rw [List.dropLast_eq_take, List.take_append_drop]
theorem idx_app {a : Int} {l m : List Int} (h : a ∈ l) : (l ++ m).idxOf a = l.idxOf a := by
  rw [List.idxOf_append, if_pos h]
theorem idx_last {z : Int} {l : List Int} (h : z ∉ l) : (l ++ [z]).idxOf z = l.length := by
  rw [List.idxOf_append, if_neg h]
  simp
theorem idx_ne' {a b : Int} {l : List Int} (h : a ≠ b) : (a :: l).idxOf b = l.idxOf b + 1 := by
  have : (a == b) = false := by simpa using h
  rw [List.idxOf_cons, this]
  rfl
/-- nothing goes ahead of two on both its sides -/
theorem pick_noV : ∀ (bs : List Bool) (L : List Int), L.Nodup → ∀ u ∈ L, ∀ t ∈ L, ∀ v ∈ L, L.idxOf u < L.idxOf t → L.idxOf t < L.idxOf v → ¬ ((pick L bs).idxOf t < (pick L bs).idxOf u ∧ (pick L bs).idxOf t < (pick L bs).idxOf v)
  | [], L, _, u, hu, t, ht, v, hv, h1, h2 => by
    rw [pick_nil]
    omega
  | false :: bs, [], _, u, hu, _, _, _, _, _, _ => by cases hu
  | false :: bs, a :: L, hn, u, hu, t, ht, v, hv, h1, h2 => by
    rw [pick_false]
    have hn := List.nodup_cons.mp hn
    intro ⟨g1, g2⟩
    by_cases et : a = t
    · subst et; simp at h1
    · by_cases eu : a = u
      · subst eu; simp at g1
      · by_cases ev : a = v
        · subst ev; simp at g2
        · rw [idx_ne' et, idx_ne' eu] at h1 g1
          rw [idx_ne' et, idx_ne' ev] at h2 g2
          exact pick_noV bs L hn.2 u ((List.mem_cons.mp hu).resolve_left fun e => eu e.symm) t ((List.mem_cons.mp ht).resolve_left fun e => et e.symm) v ((List.mem_cons.mp hv).resolve_left fun e => ev e.symm) (by omega) (by omega) ⟨by omega, by omega⟩
  | true :: bs, L, hn, u, hu, t, ht, v, hv, h1, h2 => by
    rcases snoc_of L with rfl | ⟨L, z, rfl⟩
    · cases hu
    · rw [pick_true]
      have hz : z ∉ L := fun h => by
        have := List.nodup_append.mp hn
        exact this.2.2 z h z List.mem_cons_self rfl
      have hn1 : L.Nodup := (List.nodup_append.mp hn).1
      have cs : ∀ x ∈ L ++ [z], x ≠ z → x ∈ L := fun x hx nx => by
        rcases List.mem_append.mp hx with h | h
        · exact h
        · exact absurd (by simpa using h) nx
      have lt : ∀ x ∈ L ++ [z], (L ++ [z]).idxOf x ≤ L.length := fun x hx => by
        have := List.idxOf_lt_length_iff.mpr hx
        simp at this
        omega
      intro ⟨g1, g2⟩
      by_cases et : z = t
      · subst et
        rw [idx_last hz] at h2
        have := lt v hv
        omega
      · by_cases eu : z = u
        · subst eu
          rw [idx_last hz] at h1
          have := lt t ht
          omega
        · by_cases ev : z = v
          · subst ev; simp at g2
          · have mu := cs u hu fun e => eu e.symm
            have mt := cs t ht fun e => et e.symm
            have mv := cs v hv fun e => ev e.symm
            rw [idx_app mu, idx_app mt] at h1
            rw [idx_app mt, idx_app mv] at h2
            rw [idx_ne' et, idx_ne' eu] at g1
            rw [idx_ne' et, idx_ne' ev] at g2
            exact pick_noV bs L hn1 u mu t mt v mv h1 h2 ⟨by omega, by omega⟩
theorem rev_ix {L : List Int} (hL : L.Nodup) {x : Int} (hx : x ∈ L) : L.reverse.idxOf x = L.length - 1 - L.idxOf x := by
  have hi := List.idxOf_lt_length_iff.mpr hx
  have e : L.getD (L.idxOf x) 0 = x := by
    simp only [List.getD_eq_getElem?_getD, List.getElem?_eq_getElem hi]
    exact List.getElem_idxOf hi
  have hr : L.reverse.Nodup := (List.reverse_perm L).nodup_iff.mpr hL
  have e2 : L.getD (L.idxOf x) 0 = L.reverse.getD (L.length - 1 - L.idxOf x) 0 := by
    simp only [List.getD_eq_getElem?_getD]
    rw [List.getElem?_reverse (by omega)]
    congr 2
    omega
  have := nodup_idx hr (i := L.length - 1 - L.idxOf x) (by simp; omega)
  rw [← e2, e] at this
  exact this
theorem pick_falls {L : List Int} (hL : L.Nodup) (bs : List Bool) : noV L (pick L bs).reverse := by
  intro u hu t ht v hv h1 h2 ⟨g1, g2⟩
  have p := pick_perm bs L
  have hq : (pick L bs).Nodup := p.nodup_iff.mpr hL
  have m : ∀ x ∈ L, x ∈ pick L bs := fun x hx => p.mem_iff.mpr hx
  rw [rev_ix hq (m u hu), rev_ix hq (m t ht)] at g1
  rw [rev_ix hq (m v hv), rev_ix hq (m t ht)] at g2
  have l1 := List.idxOf_lt_length_iff.mpr (m u hu)
  have l2 := List.idxOf_lt_length_iff.mpr (m t ht)
  have l3 := List.idxOf_lt_length_iff.mpr (m v hv)
  exact pick_noV bs L hL u hu t ht v hv h1 h2 ⟨by omega, by omega⟩
/-! bits and numbers -/
def valA : Nat → List Bool → Nat
  | c, [] => c
  | c, b :: bs => valA (2 * c + b.toNat) bs
theorem valA_acc : ∀ (bs : List Bool) (c : Nat), valA c bs = c * 2 ^ bs.length + valA 0 bs
  | [], c => by simp [valA]
  | b :: bs, c => by
    show valA (2 * c + b.toNat) bs = _ + valA (2 * 0 + b.toNat) bs
    rw [valA_acc bs (2 * c + b.toNat), valA_acc bs (2 * 0 + b.toNat), List.length_cons, Nat.pow_succ]
    simp only [Nat.mul_zero, Nat.zero_add, Nat.add_mul]
    have : 2 * c * 2 ^ bs.length = c * (2 ^ bs.length * 2) := by
      rw [Nat.mul_comm 2 c, Nat.mul_assoc, Nat.mul_comm 2]
    omega
theorem valA_lt : ∀ (bs : List Bool), valA 0 bs < 2 ^ bs.length
  | [] => by simp [valA]
  | b :: bs => by
    show valA (2 * 0 + b.toNat) bs < _
    rw [valA_acc, List.length_cons, Nat.pow_succ]
    have := valA_lt bs
    cases b <;> simp <;> omega
def bitsN : Nat → Nat → List Bool
  | 0, _ => []
  | k + 1, n => decide (2 ^ k ≤ n) :: bitsN k (n % 2 ^ k)
theorem bitsN_len : ∀ (k n : Nat), (bitsN k n).length = k
  | 0, _ => rfl
  | k + 1, n => by simp [bitsN, bitsN_len k]
theorem val_bits : ∀ (k n : Nat), n < 2 ^ k → valA 0 (bitsN k n) = n
  | 0, n, h => by simp at h; subst h; rfl
  | k + 1, n, h => by
    have hp : 0 < 2 ^ k := Nat.pow_pos (by decide)
    have h1 : n % 2 ^ k < 2 ^ k := Nat.mod_lt _ hp
    show valA (2 * 0 + (decide (2 ^ k ≤ n)).toNat) (bitsN k (n % 2 ^ k)) = n
    rw [valA_acc, bitsN_len, val_bits k _ h1]
    rw [Nat.pow_succ] at h
    by_cases c : 2 ^ k ≤ n
    · simp [c]
      have := Nat.mod_eq_sub_mod c
      rw [Nat.mod_eq_of_lt (by omega : n - 2 ^ k < 2 ^ k)] at this
      omega
    · simp [c]
      exact Nat.mod_eq_of_lt (by omega)
theorem bits_val : ∀ (bs : List Bool), bitsN bs.length (valA 0 bs) = bs
  | [] => rfl
  | b :: bs => by
    have h := valA_lt bs
    have e : valA 0 (b :: bs) = b.toNat * 2 ^ bs.length + valA 0 bs := by
      show valA (2 * 0 + b.toNat) bs = _
      rw [valA_acc]
      simp
    show decide (2 ^ bs.length ≤ valA 0 (b :: bs)) :: bitsN bs.length (valA 0 (b :: bs) % 2 ^ bs.length) = _
    have e2 : valA 0 (b :: bs) % 2 ^ bs.length = valA 0 bs := by
      rw [e, Nat.mul_comm, Nat.mul_add_mod, Nat.mod_eq_of_lt h]
    rw [e2, bits_val bs, e]
    cases b <;> simp <;> omega
theorem pick_inj : ∀ (bs cs : List Bool) (L : List Int), L.Nodup → bs.length = cs.length → bs.length < L.length → pick L bs = pick L cs → bs = cs
  | [], [], _, _, _, _, _ => rfl
  | [], _ :: _, _, _, h, _, _ => by cases h
  | _ :: _, [], _, _, h, _, _ => by cases h
  | b :: bs, c :: cs, L, hn, hl, h2, e => by
    simp at hl h2
    match L, hn, h2, e with
    | a :: x :: M, hn, h2, e =>
      obtain ⟨K, z, eK⟩ : ∃ K z, a :: x :: M = K ++ [z] := by
        rcases snoc_of (a :: x :: M) with h | ⟨K, z, h⟩
        · cases h
        · exact ⟨K, z, h⟩
      have hne : a ≠ z := by
        rintro rfl
        cases K with
        | nil => simp at eK
        | cons k K =>
          simp at eK
          obtain ⟨rfl, eK⟩ := eK
          have := (List.nodup_cons.mp hn).1
          rw [eK] at this
          exact this (by simp)
      have p1 : ∀ ds, pick (a :: x :: M) (false :: ds) = a :: pick (x :: M) ds := fun ds => pick_false
      have p2 : ∀ ds, pick (a :: x :: M) (true :: ds) = z :: pick K ds := fun ds => by rw [eK]; exact pick_true
      have hK : K.Nodup := by rw [eK] at hn; exact (List.nodup_append.mp hn).1
      have lK : K.length = M.length + 1 := by
        have := congrArg List.length eK
        simp at this
        omega
      simp at h2
      cases b <;> cases c
      · rw [p1, p1] at e
        injection e with _ e
        rw [pick_inj bs cs (x :: M) (List.nodup_cons.mp hn).2 hl (by simp; omega) e]
      · rw [p1, p2] at e
        injection e with e _
        exact absurd e hne
      · rw [p1, p2] at e
        injection e with e _
        exact absurd e.symm hne
      · rw [p2, p2] at e
        injection e with _ e
        rw [pick_inj bs cs K hK hl (by omega) e]
    | [a], _, h2, _ => simp at h2

end DL

noncomputable section
namespace DL
open PySem L2
def b_number_on_1 : DSt → Flow := fseq (fSet 3 (fOp (lift2 addO) (fOp (lift2 mulO) (fC (.int 2)) (fVar 3)) (fCall intO (pCons (fOp (lift2 eqO) (fVar 4) (fOp (lift2 ixO) (fVar 2) (fUn (lift1 negO) (fC (.int 1))))) fNil)))) (fDrop (fRem 2 (fVar 4)))
abbrev o_number_on_1 : List PyData → DSt → Flow := loopF (bName 4) b_number_on_1
def p_number_on : DSt → Flow := fseq (fDrop (fUser F_must_be_on (fCons (fVar 0) (fCons (fVar 1) fNil)))) (fseq (fIfS (fNot (fB (fUser F_does_fall (fCons (fVar 0) (fCons (fVar 1) fNil))))) (fRaise "NoFit") fnext) (fseq (fSet 2 (fCall listO (pCons (fVar 0) fNil))) (fseq (fSet 3 (fC (.int 0))) (fseq (fFor (fLstI (fUn (lift1 revToO) (fVar 1))) (bName 4) b_number_on_1) (fRet (fVar 3))))))
def F_number_on : List R → Pw → FRes := runF 5 2 p_number_on
def b_ranking_on_1 : DSt → Flow := fSet 2 (fOp (lift2 mulO) (fC (.int 2)) (fVar 2))
abbrev o_ranking_on_1 : List PyData → DSt → Flow := loopF (bName 3) b_ranking_on_1
def c_ranking_on_2 : M Bool := fB (fOp (lift2 gtO) (fCall lenO (pCons (fVar 4) fNil)) (fC (.int 1)))
def b_ranking_on_3 : DSt → Flow := fseq (fSet 2 (fOp (lift2 fdivO) (fVar 2) (fC (.int 2)))) (fseq (fDrop (fApp 5 (fPopAt 4 (fOp (lift2 ixO) (fLst (fCons (fC (.int 0)) (fCons (fUn (lift1 negO) (fC (.int 1))) fNil))) (fOp (lift2 fdivO) (fVar 1) (fVar 2)))))) (fSet 1 (fOp (lift2 modO) (fVar 1) (fVar 2))))
abbrev o_ranking_on_3 : DSt → Flow := whileF c_ranking_on_2 b_ranking_on_3 10000
def p_ranking_on : DSt → Flow := fseq (fDrop (fUser F_must_be_line (fCons (fVar 0) fNil))) (fseq (fSet 2 (fC (.int 1))) (fseq (fFor (fLstI (fSlice (fVar 0) (fPart (fC (.int 1))) fNoPart)) (bName 3) b_ranking_on_1) (fseq (fIfS (fOr (fB (fOp (lift2 ltO) (fVar 1) (fC (.int 0)))) (fB (fOp (lift2 geO) (fVar 1) (fVar 2)))) (fRaise "NoNumber") fnext) (fseq (fSet 4 (fCall listO (pCons (fVar 0) fNil))) (fseq (fSet 5 (fLst fNil)) (fseq (whileF c_ranking_on_2 b_ranking_on_3 10000) (fRet (fUn (lift1 revO) (fOp (lift2 addO) (fVar 5) (fVar 4))))))))))
def F_ranking_on : List R → Pw → FRes := runF 6 2 p_ranking_on
theorem ix_0 {n : Nat} (h : 0 < n) : ixN n 0 = some 0 := by
  unfold ixN
  rw [if_pos (by omega), if_pos (by omega)]
  rfl
theorem ix_m1 {n : Nat} (h : 0 < n) : ixN n (-1) = some (n - 1) := by
  unfold ixN
  rw [if_neg (by omega), if_pos (by omega)]
  congr 1
  omega
theorem atI_m1 {α : Type} {xs : List α} {z : α} : atI (xs ++ [z]) (-1) = some z := by
  unfold atI
  rw [ix_m1 (by simp)]
  simp
/-- shut, so that simp does not push casts into it -/
def pw2 (k : Nat) : Nat := 2 ^ k
theorem pw2_succ {k : Nat} : pw2 (k + 1) = 2 * pw2 k := by unfold pw2; rw [Nat.pow_succ]; omega
theorem pw2_pos {k : Nat} : 0 < pw2 k := Nat.pow_pos (by decide)
theorem pw2_le {k : Nat} (h : k ≤ 9) : pw2 k ≤ 512 := Nat.pow_le_pow_right (n := 2) (by decide) h
theorem eraseIdx_last {l : List PyData} {z : PyData} {n : Nat} (h : n = l.length) : (l ++ [z]).eraseIdx n = l := by
  subst h
  rw [List.eraseIdx_append_of_length_le (by simp)]
  simp
theorem ranking_on_ok {L : List Int} {n : Nat} {w : Pw} (hL : Rank L) (hn : n < pw2 (L.length - 1)) : F_ranking_on [.val (.list ((L).map .int)), .val (.int ((n : Nat) : Int))] w = .ok (.new ((pick L (bitsN (L.length - 1) n)).reverse.map .int)) w := by
  have l0 := hL.2.2.1
  have l1 := hL.2.2.2
  obtain ⟨s1, e1, v3, rfl⟩ := loopN (b := bName 3) (p := b_ranking_on_1) (f := .int) (l := L.drop 1) (s := ⟨[.val (.list ((L).map .int)), .val (.int ((n : Nat) : Int)), .val (.int (1)), .no, .no, .no], w⟩)
    (fun i s => ∃ v3, s = ⟨[.val (.list ((L).map .int)), .val (.int ((n : Nat) : Int)), .val (.int ((pw2 i : Nat) : Int)), v3, .no, .no], w⟩) ⟨_, rfl⟩ (by
      rintro i x s hi hx ⟨v3, rfl⟩
      have hi2 := (List.getElem?_eq_some_iff.mp hi).1
      simp at hi2
      have := pw2_le (k := i) (by omega)
      have em : mulO (.int 2) (.int ((pw2 i : Nat) : Int)) = some (.val (.int ((pw2 (i + 1) : Nat) : Int))) := by
        rw [mul_ok (by omega) (by omega) (by omega) (by omega), pw2_succ]
        congr 3
      unfold b_ranking_on_1
      simp -implicitDefEqProofs [em])
  have ed : (L.map PyData.int).drop 1 = (L.drop 1).map .int := by simp
  rw [List.length_drop, ← ed, List.drop_one] at e1
  have stp : ∀ ls fs m, ls ≠ [] → m < pw2 (ls.length - 1) → fs.length + ls.length ≤ 10 → 1 < ls.length → ∃ ls' fs' m', b_ranking_on_3 ⟨[.val (.list ((L).map .int)), .val (.int ((m : Nat) : Int)), .val (.int ((pw2 (ls.length - 1) : Nat) : Int)), v3, .own ((ls).map .int), .own ((fs).map .int)], w⟩ = .next ⟨[.val (.list ((L).map .int)), .val (.int ((m' : Nat) : Int)), .val (.int ((pw2 (ls'.length - 1) : Nat) : Int)), v3, .own ((ls').map .int), .own ((fs').map .int)], w⟩ ∧ ls'.length + 1 = ls.length ∧ fs'.length = fs.length + 1 ∧ m' < pw2 (ls'.length - 1) ∧ fs' ++ pick ls' (bitsN (ls'.length - 1) m') = fs ++ pick ls (bitsN (ls.length - 1) m) := by
    intro ls fs m h0 hm hf h1
    obtain ⟨k, hk⟩ : ∃ k, ls.length = k + 2 := ⟨ls.length - 2, by omega⟩
    have hk1 : ls.length - 1 = k + 1 := by omega
    have := pw2_le (k := k) (by omega)
    have pk := pw2_pos (k := k)
    rw [hk1] at hm ⊢
    rw [pw2_succ] at hm
    have ef : fdivO (.int ((pw2 (k + 1) : Nat) : Int)) (.int 2) = some (.val (.int ((pw2 k : Nat) : Int))) := by
      rw [fdiv_ok (by omega) (by omega), pw2_succ]
      have : ((2 * pw2 k : Nat) : Int) / 2 = (pw2 k : Nat) := by omega
      rw [this]
    have eg : fdivO (.int ((m : Nat) : Int)) (.int ((pw2 k : Nat) : Int)) = some (.val (.int ((m / pw2 k : Nat) : Int))) := by
      rw [fdiv_ok (by omega) (by omega)]
      rfl
    have eh : modO (.int ((m : Nat) : Int)) (.int ((pw2 k : Nat) : Int)) = some (.val (.int ((m % pw2 k : Nat) : Int))) := by
      rw [mod_ok (by omega)]
      rfl
    have hms : m % pw2 k < pw2 k := Nat.mod_lt _ pk
    have hls : ltS fs.length := size_lt (by omega)
    have eb : bitsN (k + 1) m = decide (pw2 k ≤ m) :: bitsN k (m % pw2 k) := rfl
    rw [eb]
    by_cases c : pw2 k ≤ m
    · have d1 : m / pw2 k = 1 := Nat.div_eq_of_lt_le (by omega) (by omega)
      obtain ⟨K, z, rfl⟩ : ∃ K z, ls = K ++ [z] := (snoc_of ls).resolve_left h0
      have lK : K.length = k + 1 := by simp at hk; omega
      have lK1 : K.length - 1 = k := by omega
      rw [show decide (pw2 k ≤ m) = true by simpa using c, pick_true]
      have ix : ixN (k + 1 + 1) (-1) = some (k + 1) := ix_m1 (by omega)
      have hg : (K.map PyData.int ++ [PyData.int z])[k + 1]? = some (.int z) := by rw [← lK]; simp
      have he : (K.map PyData.int ++ [PyData.int z]).eraseIdx (k + 1) = K.map .int := eraseIdx_last (by simp [lK])
      have hz : inW (-1) := inW_of (by omega) (by omega)
      have ea : fs.map PyData.int ++ [.int z] = (fs ++ [z]).map .int := by simp
      refine ⟨K, fs ++ [z], m % pw2 k, ?_, by simp, by simp, by rw [lK1]; exact hms, by rw [lK1]; simp⟩
      rw [lK1]
      unfold b_ranking_on_3
      simp -implicitDefEqProofs [ef, eg, eh, d1, lK, ix, hg, he, hz, hls]
    · have d0 : m / pw2 k = 0 := Nat.div_eq_of_lt (by omega)
      match ls, h0, hk with
      | x :: K, _, hk =>
        have lK : K.length = k + 1 := by simp at hk; omega
        have lK1 : K.length - 1 = k := by omega
        rw [show decide (pw2 k ≤ m) = false by simpa using c, pick_false]
        have ix : ixN (k + 1 + 1) 0 = some 0 := ix_0 (by omega)
        refine ⟨K, fs ++ [x], m % pw2 k, ?_, by simp, by simp, by rw [lK1]; exact hms, by rw [lK1]; simp⟩
        rw [lK1]
        unfold b_ranking_on_3
        simp -implicitDefEqProofs [ef, eg, eh, d0, lK, ix, hls]
  obtain ⟨s2, e2, ⟨ls, fs, m, h0, hm, hf, hp, rfl⟩, hc⟩ := whileF_inv (c := c_ranking_on_2) (p := b_ranking_on_3) (fun s => ∃ (ls fs : List Int) (m : Nat), ls ≠ [] ∧ m < pw2 (ls.length - 1) ∧ fs.length + ls.length ≤ 10 ∧ fs ++ pick ls (bitsN (ls.length - 1) m) = pick L (bitsN (L.length - 1) n) ∧ s = ⟨[.val (.list ((L).map .int)), .val (.int ((m : Nat) : Int)), .val (.int ((pw2 (ls.length - 1) : Nat) : Int)), v3, .own ((ls).map .int), .own ((fs).map .int)], w⟩)
    (fun (s : DSt) => match s.d[4]? with | some (Sl.own ls) => ls.length | _ => 0) 10000 (s := ⟨[.val (.list ((L).map .int)), .val (.int ((n : Nat) : Int)), .val (.int ((pw2 (L.length - 1) : Nat) : Int)), v3, .own ((L).map .int), .own ((([] : List Int)).map .int)], w⟩) ⟨L, [], n, List.length_pos_iff.mp l0, hn, by simpa using l1, rfl, rfl⟩ (by show (L.map PyData.int).length < 10000; simp; omega) (by
      rintro s ⟨ls, fs, m, h0, hm, hf, hp, rfl⟩
      have h0' : 0 < ls.length := List.length_pos_iff.mpr h0
      by_cases h1 : 1 < ls.length
      · left
        obtain ⟨ls', fs', m', e, g1, g2, g3, g4⟩ := stp ls fs m h0 hm hf h1
        have hgt : (1 : Int) < ls.length := by omega
        refine ⟨_, by unfold c_ranking_on_2; simp -implicitDefEqProofs [hgt], _, e, ⟨ls', fs', m', by rintro rfl; simp at g1; omega, g3, by omega, g4.trans hp, rfl⟩, ?_⟩
        show (ls'.map PyData.int).length < (ls.map PyData.int).length
        simp
        omega
      · right
        have hgt : ¬ (1 : Int) < ls.length := by omega
        unfold c_ranking_on_2
        simp -implicitDefEqProofs [hgt])
  have h1 : ls.length = 1 := by
    have h0' : 0 < ls.length := List.length_pos_iff.mpr h0
    by_cases h1 : 1 < ls.length
    · exfalso
      have hgt : (1 : Int) < ls.length := by omega
      unfold c_ranking_on_2 at hc
      simp -implicitDefEqProofs [hgt] at hc
    · omega
  have e0 : ls.length - 1 = 0 := by omega
  rw [e0] at hp
  have hp : fs ++ ls = pick L (bitsN (L.length - 1) n) := hp
  rw [← hp]
  have c1 : ¬ ((n : Nat) : Int) < 0 := by omega
  have c2 : ¬ ((pw2 (L.length - 1) : Nat) : Int) ≤ (n : Nat) := by omega
  have cut : cutD (L.map PyData.int) (some 1) none = (L.map PyData.int).tail := by
    rw [cutD_map, ← List.drop_one, ed]
    congr 1
    exact cut_from (k := 1)
  have hll : leS (fs.length + ls.length) := size_le (by omega)
  unfold F_ranking_on p_ranking_on
  simp only [x_runF]
  simp -implicitDefEqProofs at e2
  simp -implicitDefEqProofs [must_line_ok hL, cut, e1, c1, c2, e2, hll]
theorem loop_cons {b : Bd} {p : DSt → Flow} {d : PyData} {ds : List PyData} {s s2 : DSt} (h : bod b p d s = .next s2) : loopF b p (d :: ds) s = loopF b p ds s2 := by
  conv => lhs; unfold loopF
  unfold bod at h
  split at h
  · rename_i s1 e
    rw [e]
    dsimp only
    rw [h]
  · cases h
theorem pick_len (bs : List Bool) (L : List Int) : (pick L bs).length = L.length := (pick_perm bs L).length_eq
theorem find_last {K : List Int} {z : Int} (h : z ∉ K) : (K ++ [z]).findIdx? (· == z) = some K.length := by
  rw [List.findIdx?_append]
  have : K.findIdx? (· == z) = none := by
    rw [List.findIdx?_eq_none_iff]
    intro x hx
    simp
    rintro rfl
    exact h hx
  rw [this]
  simp
theorem num_loop {d0 d1 : Sl} {w : Pw} : ∀ (bs : List Bool) (left : List Int) (c : Nat) (v4 : Sl), left.Nodup → bs.length + 1 = left.length → left.length ≤ 10 → c < 2 ^ (10 - left.length) → ∃ left' v', loopF (bName 4) b_number_on_1 (((pick left bs).take bs.length).map .int) ⟨[d0, d1, .own (left.map .int), .val (.int ((c : Nat) : Int)), v4], w⟩ = .next ⟨[d0, d1, .own left', .val (.int ((valA c bs : Nat) : Int)), v'], w⟩
  | [], left, c, v4, _, _, _, _ => ⟨left.map .int, v4, rfl⟩
  | b :: bs, left, c, v4, hn, hl, h10, hc => by
    simp at hl
    have hc9 : 2 ^ (10 - left.length) ≤ 2 ^ 9 := Nat.pow_le_pow_right (by decide) (by omega)
    have hp : 2 ^ (10 - (left.length - 1)) = 2 ^ (10 - left.length) * 2 := by
      rw [← Nat.pow_succ]
      congr 1
      omega
    obtain ⟨em, em1⟩ : mulO (.int 2) (.int ((c : Nat) : Int)) = some (.val (.int (2 * (c : Int)))) ∧ True := ⟨mul_ok (by omega) (by omega) (by omega) (by omega), trivial⟩
    have hl0 : left ≠ [] := by rintro rfl; simp at hl
    cases b with
    | true =>
      obtain ⟨K, z, rfl⟩ := (snoc_of left).resolve_left hl0
      have hz : z ∉ K := fun h => (List.nodup_append.mp hn).2.2 z h z List.mem_cons_self rfl
      simp only [List.length_append, List.length_cons, List.length_nil] at hl hp h10
      obtain ⟨l', v', e⟩ := num_loop bs K (2 * c + 1) (.val (.int z)) (List.nodup_append.mp hn).1 (by omega) (by omega) (by
        have : K.length + 1 - 1 = K.length := by omega
        rw [this] at hp
        simp only [List.length_append, List.length_cons, List.length_nil] at hc
        omega)
      refine ⟨l', v', ?_⟩
      rw [pick_true]
      show loopF _ _ (.int z :: ((pick K bs).take bs.length).map .int) _ = _
      rw [loop_cons (s2 := ⟨[d0, d1, .own (K.map .int), .val (.int ((2 * c + 1 : Nat) : Int)), .val (.int (z))], w⟩)]
      · exact e
      · have fe := find_last hz
        have er : (K ++ [z]).eraseIdx K.length = K := by
          rw [List.eraseIdx_append_of_length_le (by simp)]
          simp
        have ei : intsD (K.map PyData.int ++ [.int z]) = some (K ++ [z]) := by
          have := intsD_map' (f := fun x : Int => x) (l := K ++ [z])
          simpa using this
        have ea : atI (K.map PyData.int ++ [.int z]) (-1) = some (.int z) := atI_m1
        have ec : (((2 * c + 1 : Nat)) : Int) = 2 * (c : Int) + 1 := by omega
        unfold b_number_on_1
        rw [ec]
        simp -implicitDefEqProofs [em, ea, ei, fe, er]
    | false =>
      match left, hn, hl, h10, hc, hp, hl0 with
      | a :: K, hn, hl, h10, hc, hp, _ =>
        simp only [List.length_cons] at hl hp h10 hc
        obtain ⟨l', v', e⟩ := num_loop bs K (2 * c) (.val (.int a)) (List.nodup_cons.mp hn).2 (by omega) (by omega) (by
          have : K.length + 1 - 1 = K.length := by omega
          rw [this] at hp
          omega)
        refine ⟨l', v', ?_⟩
        rw [pick_false]
        show loopF _ _ (.int a :: ((pick K bs).take bs.length).map .int) _ = _
        obtain ⟨M, z, rfl⟩ := (snoc_of K).resolve_left (by rintro rfl; simp at hl)
        rw [loop_cons (s2 := ⟨[d0, d1, .own ((M ++ [z]).map .int), .val (.int ((2 * c : Nat) : Int)), .val (.int (a))], w⟩)]
        · exact e
        · have haz : ¬ a = z := by
            rintro rfl
            exact (List.nodup_cons.mp hn).1 (by simp)
          have ei : intsD (.int a :: (M.map PyData.int ++ [.int z])) = some (a :: (M ++ [z])) := by
            have := intsD_map' (f := fun x : Int => x) (l := a :: (M ++ [z]))
            simpa using this
          have ea : atI (.int a :: (M.map PyData.int ++ [.int z])) (-1) = some (.int z) := by
            have := atI_m1 (xs := .int a :: M.map PyData.int) (z := PyData.int z)
            simpa using this
          have ec : (((2 * c : Nat)) : Int) = 2 * (c : Int) := by omega
          unfold b_number_on_1
          rw [ec]
          simp -implicitDefEqProofs [em, ea, ei, haz, List.findIdx?_cons]
theorem number_on_ok {L r : List Int} {bs : List Bool} {w : Pw} (hL : Rank L) (hb : bs.length + 1 = L.length) (hr : r = (pick L bs).reverse) : F_number_on [.val (.list ((L).map .int)), .val (.list ((r).map .int))] w = .ok (.val (.int (valA 0 bs))) w := by
  have hp : r.Perm L := by rw [hr]; exact (List.reverse_perm _).trans (pick_perm bs L)
  have l1 := hL.2.2.2
  have hf : fallB L r = true := by rw [hr]; exact fallB_iff.mpr (pick_falls hL.1 bs)
  have ek : ((r.map PyData.int).drop 1).reverse = ((pick L bs).take bs.length).map .int := by
    rw [hr, ← List.map_drop, ← List.map_reverse]
    congr 1
    rw [List.drop_one, List.tail_reverse, List.reverse_reverse, List.dropLast_eq_take, pick_len]
    congr 1
    omega
  obtain ⟨l', v', e⟩ := num_loop (d0 := .val (.list ((L).map .int))) (d1 := .val (.list ((r).map .int))) (w := w) bs L 0 .no hL.1 hb l1 (Nat.pow_pos (by decide))
  rw [← ek] at e
  unfold F_number_on p_number_on
  simp only [x_runF]
  simp -implicitDefEqProofs at e
  simp -implicitDefEqProofs [must_on_ok hL hp, does_fall_ok hL hp, hf, e]

end DL

noncomputable section
namespace DL
open PySem L2
def e_valley_1 : M R := fOp (lift2 subO) (fC (.int 0)) (fIndex (fVar 1) (fVar 6))
abbrev l_valley_1 : M R := fLc (fLstI (fVar 0)) (bName 6) fYes (e_valley_1) [6]
def b_valley_2 : DSt → Flow := fIfS (fAnd (fB (fOp (lift2 ltO) (fOp (lift2 ixO) (fVar 2) (fVar 4)) (fOp (lift2 ixO) (fVar 2) (fVar 3)))) (fB (fOp (lift2 ltO) (fOp (lift2 ixO) (fVar 2) (fVar 4)) (fOp (lift2 ixO) (fVar 2) (fVar 5))))) (fRet (fTup (fCons (fOp (lift2 ixO) (fVar 0) (fVar 3)) (fCons (fOp (lift2 ixO) (fVar 0) (fVar 4)) (fCons (fOp (lift2 ixO) (fVar 0) (fVar 5)) fNil))))) fnext
abbrev o_valley_2 : List PyData → DSt → Flow := loopF (bName 5) b_valley_2
def b_valley_3 : DSt → Flow := fFor (fRng2 (pCons (fOp (lift2 addO) (fVar 4) (fC (.int 1))) (pCons (fCall lenO (pCons (fVar 0) fNil)) fNil))) (bName 5) b_valley_2
abbrev o_valley_3 : List PyData → DSt → Flow := loopF (bName 4) b_valley_3
def b_valley_4 : DSt → Flow := fFor (fRng2 (pCons (fOp (lift2 addO) (fVar 3) (fC (.int 1))) (pCons (fCall lenO (pCons (fVar 0) fNil)) fNil))) (bName 4) b_valley_3
abbrev o_valley_4 : List PyData → DSt → Flow := loopF (bName 3) b_valley_4
def p_valley : DSt → Flow := fseq (fDrop (fUser F_must_be_on (fCons (fVar 0) (fCons (fVar 1) fNil)))) (fseq (fSet 2 (fLc (fLstI (fVar 0)) (bName 6) fYes (e_valley_1) [6])) (fseq (fFor (fRng1 (pCons (fCall lenO (pCons (fVar 0) fNil)) fNil)) (bName 3) b_valley_4) (fRet (fC .none))))
def F_valley : List R → Pw → FRes := runF 7 2 p_valley
def b_law_valley_v2_1 : DSt → Flow := fseq (fPar3 5 6 7 (fCons (fOp (lift2 ixO) (fVar 0) (fVar 2)) (fCons (fOp (lift2 ixO) (fVar 0) (fVar 3)) (fCons (fOp (lift2 ixO) (fVar 0) (fVar 4)) fNil)))) (fIfS (fB (fOp (lift2 ltO) (fCall maxO (pCons (fIndex (fVar 1) (fVar 5)) (pCons (fIndex (fVar 1) (fVar 7)) fNil))) (fIndex (fVar 1) (fVar 6)))) (fRet (fTup (fCons (fVar 5) (fCons (fVar 6) (fCons (fVar 7) fNil))))) fnext)
abbrev o_law_valley_v2_1 : List PyData → DSt → Flow := loopF (bName 4) b_law_valley_v2_1
def b_law_valley_v2_2 : DSt → Flow := fFor (fRng2 (pCons (fOp (lift2 addO) (fVar 3) (fC (.int 1))) (pCons (fCall lenO (pCons (fVar 0) fNil)) fNil))) (bName 4) b_law_valley_v2_1
abbrev o_law_valley_v2_2 : List PyData → DSt → Flow := loopF (bName 3) b_law_valley_v2_2
def b_law_valley_v2_3 : DSt → Flow := fFor (fRng2 (pCons (fOp (lift2 addO) (fVar 2) (fC (.int 1))) (pCons (fCall lenO (pCons (fVar 0) fNil)) fNil))) (bName 3) b_law_valley_v2_2
abbrev o_law_valley_v2_3 : List PyData → DSt → Flow := loopF (bName 2) b_law_valley_v2_3
def p_law_valley_v2 : DSt → Flow := fseq (fFor (fRng1 (pCons (fCall lenO (pCons (fVar 0) fNil)) fNil)) (bName 2) b_law_valley_v2_3) (fRet (fC .none))
def F_law_valley_v2 : List R → Pw → FRes := runF 8 2 p_law_valley_v2
theorem map_eraseIdx {α β : Type} {f : α → β} : ∀ (l : List α) (j : Nat), (l.map f).eraseIdx j = (l.eraseIdx j).map f
  | [], _ => rfl
  | _ :: _, 0 => rfl
  | a :: l, j + 1 => by
    show f a :: (l.map f).eraseIdx j = f a :: (l.eraseIdx j).map f
    rw [map_eraseIdx l j]
theorem falling_ok {pa : Addr} {w : Pw} {m : Int} {L : List Int} (h : WP pa w m) (hm : m < 2 ^ 59) (hl : L.length ≤ 5000) : ∃ (r : List Int) (w' : Pw), F_law_falling [.raw (.ref pa), .val (.list (L.map .int))] w = .ok (.new (r.map .int)) w' ∧ r.Perm L ∧ WP pa w' (m + 5000) := by
  obtain ⟨s', e, ⟨ls, fs, w', rfl, hp, k, hw, hk⟩, hc⟩ := whileF_inv (c := c_law_falling_1) (p := b_law_falling_2) (fun s => ∃ (ls fs : List Int) (w' : Pw), s = ⟨[.raw (.ref pa), .val (.list (L.map .int)), .own (ls.map .int), .own (fs.map .int)], w'⟩ ∧ (fs ++ ls).Perm L ∧ ∃ k : Nat, WP pa w' (m + k) ∧ k + ls.length = L.length)
    (fun (s : DSt) => match s.d[2]? with | some (Sl.own ls) => ls.length | _ => 0) 10000 (s := ⟨[.raw (.ref pa), .val (.list (L.map .int)), .own (L.map .int), .own []], w⟩) ⟨L, [], w, rfl, .refl _, 0, by simpa using h, by simp⟩ (by show (L.map PyData.int).length < 10000; simp; omega) (by
      rintro s ⟨ls, fs, w', rfl, hp, k, hw, hk⟩
      unfold c_law_falling_1 b_law_falling_2
      cases hls : ls with
      | nil => exact .inr (by simp -implicitDefEqProofs)
      | cons a l =>
        have hlen : ls.length = l.length + 1 := by rw [hls]; rfl
        left
        obtain ⟨r, w2, e, r0, r1, hw2⟩ := draw_ok (n := 2) hw (by omega) (by omega) (by omega)
        obtain ⟨j, hj, ej⟩ : ∃ j : Nat, j < l.length + 1 ∧ ((l.length : Int) + 1 - 1) * r = j := by
          have : r = 0 ∨ r = 1 := by omega
          rcases this with rfl | rfl
          · exact ⟨0, by omega, by omega⟩
          · exact ⟨l.length, by omega, by omega⟩
        have ix : ixN (l.length + 1) (j : Int) = some j := by
          unfold ixN
          rw [if_pos (by omega), if_pos (by omega)]
          simp
        have hpl := hp.length_eq
        simp at hpl
        have hfs : ltS fs.length := size_lt (by omega)
        have hW : inW (j : Int) := inW_of (by omega) (by omega)
        have em : mulO (.int ((l.length : Int) + 1 - 1)) (.int r) = some (.val (.int j)) := by
          rw [mul_ok (by omega) (by omega) (by omega) (by omega), ej]
        have em' : mulO (.int (l.length : Int)) (.int r) = some (.val (.int j)) := by
          have e : (l.length : Int) + 1 - 1 = l.length := by omega
          rw [e] at em
          exact em
        obtain ⟨d, hd⟩ : ∃ d, (a :: l)[j]? = some d := ⟨_, List.getElem?_eq_getElem (by simpa using hj)⟩
        have hd' : (PyData.int a :: l.map PyData.int)[j]? = some (.int d) := by
          have : ((a :: l).map PyData.int)[j]? = some (.int d) := by rw [List.getElem?_map, hd]; rfl
          simpa using this
        have er : (PyData.int a :: l.map PyData.int).eraseIdx j = ((a :: l).eraseIdx j).map .int := by
          have : ((a :: l).map PyData.int).eraseIdx j = ((a :: l).eraseIdx j).map .int := by rw [map_eraseIdx]
          simpa using this
        have ea : fs.map PyData.int ++ [.int d] = (fs ++ [d]).map .int := by simp
        refine ⟨_, by simp -implicitDefEqProofs; rfl, _, by simp -implicitDefEqProofs [e, em, em', ix, hd', hW, hfs, er, ea, -List.map_append], ⟨(a :: l).eraseIdx j, fs ++ [d], w2, rfl, ?_, k + 1, ?_, ?_⟩, ?_⟩
        · have hj2 : j < (a :: l).length := by simpa using hj
          have ed : d = (a :: l)[j] := by
            rw [List.getElem?_eq_getElem hj2] at hd
            exact (Option.some.inj hd).symm
          have : ((a :: l)[j] :: (a :: l).eraseIdx j).Perm (a :: l) := erase_perm hj2
          rw [List.append_assoc, ed]
          rw [hls] at hp
          exact (List.Perm.append_left fs this).trans hp
        · have : m + ((k + 1 : Nat) : Int) = m + k + 1 := by omega
          rw [this]
          exact hw2
        · rw [List.length_eraseIdx]
          simp
          rw [if_pos (by omega)]
          omega
        · show (((a :: l).eraseIdx j).map PyData.int).length < ((a :: l).map PyData.int).length
          rw [List.length_map, List.length_map, List.length_eraseIdx]
          simp
          rw [if_pos (by omega)]
          omega)
  have : ls = [] := by
    cases ls with
    | nil => rfl
    | cons a l =>
      exfalso
      unfold c_law_falling_1 at hc
      simp at hc
  subst this
  refine ⟨fs.reverse, w', ?_, (List.reverse_perm _).trans (by simpa using hp), hw.mono (by omega)⟩
  unfold F_law_falling p_law_falling
  simp only [x_runF]
  simp -implicitDefEqProofs [e]
def nth' (l : List Int) (k : Nat) : Int := l.getD k 0
/-! ### the first valley -/
def valP (L r : List Int) (k j i : Nat) : Bool := decide (r.idxOf (nth' L k) < r.idxOf (nth' L j)) && decide (r.idxOf (nth' L i) < r.idxOf (nth' L j))
def valR (L : List Int) (k j i : Nat) : R := .val (.tuple [.int (nth' L k), .int (nth' L j), .int (nth' L i)])
def valI (L r : List Int) (k j : Nat) : Option R := (List.range (L.length - (j + 1))).findSome? fun u => if valP L r k j (j + 1 + u) = true then some (valR L k j (j + 1 + u)) else none
def valJ (L r : List Int) (k : Nat) : Option R := (List.range (L.length - (k + 1))).findSome? fun t => valI L r k (k + 1 + t)
def valK (L r : List Int) : Option R := (List.range L.length).findSome? fun k => valJ L r k
theorem nth_at {L : List Int} {k : Nat} (h : k < L.length) : atI (L.map PyData.int) (k : Int) = some (.int (nth' L k)) ∧ nth' L k ∈ L := by
  constructor
  · rw [atI_nat]
    simp [nth', List.getElem?_eq_getElem h]
  · simp only [nth', List.getD_eq_getElem?_getD, List.getElem?_eq_getElem h]
    exact List.getElem_mem _
theorem valley_ok {L r : List Int} {w : Pw} (hL : Rank L) (hp : r.Perm L) : F_valley [.val (.list (L.map .int)), .val (.list (r.map .int))] w = .ok ((valK L r).getD (.val .none)) w := by
  have hl := hL.2.2.2
  have mr : ∀ x ∈ L, x ∈ r := fun x hx => hp.mem_iff.mpr hx
  obtain ⟨hs, ehs⟩ : ∃ hs : List PyData, hs = L.map fun x => PyData.int (0 - (r.idxOf x : Nat)) := ⟨_, rfl⟩
  have ath : ∀ k : Nat, k < L.length → atI hs (k : Int) = some (.int (0 - (r.idxOf (nth' L k) : Nat))) := fun k hk => by
    rw [atI_nat, ehs]
    simp [nth', List.getElem?_eq_getElem hk]
  have lev3 : ∀ (k j : Nat) (v5 v6 : Sl), k < L.length → j < L.length → _ := fun k j v5 v6 hk hj =>
    loopFind (b := bName 5) (p := b_valley_2) (f := fun u : Nat => PyData.int ((j : Int) + 1 + (u : Int))) (l := List.range (L.length - (j + 1))) (s := ⟨[.val (.list (L.map .int)), .val (.list (r.map .int)), .own hs, .val (.int k), .val (.int j), v5, .no], w⟩)
      (fun u => if valP L r k j (j + 1 + u) = true then some (valR L k j (j + 1 + u)) else none) (fun s => ∃ v5, s = ⟨[.val (.list (L.map .int)), .val (.list (r.map .int)), .own hs, .val (.int k), .val (.int j), v5, .no], w⟩) (fun _ s => s.w = w) ⟨_, rfl⟩ (by
        rintro u hu s ⟨v5, rfl⟩
        have hu2 : j + 1 + u < L.length := by simp at hu; omega
        obtain ⟨a1, m1⟩ := nth_at hk
        obtain ⟨a2, m2⟩ := nth_at hj
        obtain ⟨a3, m3⟩ := nth_at hu2
        have h1 := ath k hk
        have h2 := ath j hj
        have h3 := ath _ hu2
        have ec : ((j + 1 + u : Nat) : Int) = (j : Int) + 1 + (u : Int) := by omega
        rw [ec] at a3 h3
        unfold b_valley_2 valP valR
        by_cases c1 : r.idxOf (nth' L k) < r.idxOf (nth' L j)
        · by_cases c2 : r.idxOf (nth' L (j + 1 + u)) < r.idxOf (nth' L j)
          · refine ⟨fun e => ?_, fun q e => ?_⟩
            · simp [c1, c2] at e
            · simp [c1, c2] at e
              subst e
              have d1 : (0 : Int) - (r.idxOf (nth' L j) : Nat) < 0 - (r.idxOf (nth' L k) : Nat) := by omega
              have d2 : (0 : Int) - (r.idxOf (nth' L j) : Nat) < 0 - (r.idxOf (nth' L (j + 1 + u)) : Nat) := by omega
              simp -implicitDefEqProofs [a1, a2, a3, h1, h2, h3, d1, d2, c1, c2]
          · refine ⟨fun e => ?_, fun q e => ?_⟩
            · simp -implicitDefEqProofs [a1, a2, a3, h1, h2, h3, c1, c2]
            · simp [c1, c2] at e
        · refine ⟨fun e => ?_, fun q e => ?_⟩
          · simp -implicitDefEqProofs [a1, a2, a3, h1, h2, h3, c1]
          · simp [c1] at e)
  have lev2 : ∀ (k : Nat) (v4 v5 : Sl), k < L.length → _ := fun k v4 v5 hk =>
    loopFind (b := bName 4) (p := b_valley_3) (f := fun u : Nat => PyData.int ((k : Int) + 1 + (u : Int))) (l := List.range (L.length - (k + 1))) (s := ⟨[.val (.list (L.map .int)), .val (.list (r.map .int)), .own hs, .val (.int k), v4, v5, .no], w⟩)
      (fun t => valI L r k (k + 1 + t)) (fun s => ∃ v4 v5, s = ⟨[.val (.list (L.map .int)), .val (.list (r.map .int)), .own hs, .val (.int k), v4, v5, .no], w⟩) (fun _ s => s.w = w) ⟨_, _, rfl⟩ (by
        rintro t ht s ⟨v4, v5, rfl⟩
        have ht2 : k + 1 + t < L.length := by simp at ht; omega
        obtain ⟨h1, h2⟩ := lev3 k (k + 1 + t) v5 .no hk ht2
        have ec : ((k + 1 + t : Nat) : Int) = (k : Int) + 1 + (t : Int) := by omega
        have hB1 : inB ((k : Int) + 1 + (t : Int) + 1) := inB_of (by omega) (by omega)
        have hB2 : inB (L.length : Int) := inB_of (by omega) (by omega)
        have et : ((L.length : Int) - ((k : Int) + 1 + (t : Int) + 1)).toNat = L.length - (k + 1 + t + 1) := by omega
        rw [ec] at h1 h2
        unfold b_valley_3
        refine ⟨fun e => ?_, fun q e => ?_⟩
        · obtain ⟨s', e1, v5', rfl⟩ := h1 e
          simp -implicitDefEqProofs [hB1, hB2, et, rangeD, e1]
        · obtain ⟨s', e1, hw⟩ := h2 q e
          exact ⟨s', by simp -implicitDefEqProofs [hB1, hB2, et, rangeD, e1], hw⟩)
  have lev1 := loopFind (b := bName 3) (p := b_valley_4) (f := fun u : Nat => PyData.int (u : Int)) (l := List.range L.length) (s := ⟨[.val (.list (L.map .int)), .val (.list (r.map .int)), .own hs, .no, .no, .no, .no], w⟩)
      (fun k => valJ L r k) (fun s => ∃ v3 v4 v5, s = ⟨[.val (.list (L.map .int)), .val (.list (r.map .int)), .own hs, v3, v4, v5, .no], w⟩) (fun _ s => s.w = w) ⟨_, _, _, rfl⟩ (by
        rintro k hk s ⟨v3, v4, v5, rfl⟩
        have hk2 : k < L.length := by simpa using hk
        obtain ⟨h1, h2⟩ := lev2 k v4 v5 hk2
        have hB1 : inB ((k : Int) + 1) := inB_of (by omega) (by omega)
        have hB2 : inB (L.length : Int) := inB_of (by omega) (by omega)
        have et : ((L.length : Int) - ((k : Int) + 1)).toNat = L.length - (k + 1) := by omega
        unfold b_valley_4
        refine ⟨fun e => ?_, fun q e => ?_⟩
        · obtain ⟨s', e1, v4', v5', rfl⟩ := h1 e
          simp -implicitDefEqProofs [hB1, hB2, et, rangeD, e1]
        · obtain ⟨s', e1, hw⟩ := h2 q e
          exact ⟨s', by simp -implicitDefEqProofs [hB1, hB2, et, rangeD, e1], hw⟩)
  have el : fLc (fLstI (fVar 0)) (bName 6) fYes e_valley_1 [6] ⟨[.val (.list (L.map .int)), .val (.list (r.map .int)), .no, .no, .no, .no, .no], w⟩ = .ok (.new hs) ⟨[.val (.list (L.map .int)), .val (.list (r.map .int)), .no, .no, .no, .no, .no], w⟩ := by
    rw [ehs]
    refine lc_all (fun x : Int => ⟨[.val (.list (L.map .int)), .val (.list (r.map .int)), .no, .no, .no, .no, .val (.int x)], w⟩) _ (f := .int) (l := L) (by simp -implicitDefEqProofs) (by omega) rfl (fun a _ => by rfl) (fun a _ => by rfl) (fun x hx => ?_)
    unfold e_valley_1
    simp -implicitDefEqProofs [idxO_mem (mr x hx)]
  have hB2 : inB (L.length : Int) := inB_of (by omega) (by omega)
  unfold F_valley p_valley
  simp only [x_runF]
  cases k : valK L r with
  | none =>
    obtain ⟨s', e1, v3, v4, v5, rfl⟩ := lev1.1 k
    simp -implicitDefEqProofs [must_on_ok hL hp, el, hB2, rangeD, e1]
  | some q =>
    obtain ⟨s', e1, hw⟩ := lev1.2 q k
    have hq : ∃ d, q = .val d := by
      unfold valK valJ valI at k
      obtain ⟨k1, _, e⟩ := List.exists_of_findSome?_eq_some k
      obtain ⟨k2, _, e⟩ := List.exists_of_findSome?_eq_some e
      obtain ⟨k3, _, e⟩ := List.exists_of_findSome?_eq_some e
      split at e
      · cases e; exact ⟨_, rfl⟩
      · cases e
    obtain ⟨d, rfl⟩ := hq
    simp -implicitDefEqProofs [must_on_ok hL hp, el, hB2, rangeD, e1, hw]
theorem law_valley_ok {L r : List Int} {w : Pw} (hl : L.length ≤ 10) (hp : r.Perm L) : F_law_valley_v2 [.val (.list (L.map .int)), .val (.list (r.map .int))] w = .ok ((valK L r).getD (.val .none)) w := by
  have mr : ∀ x ∈ L, x ∈ r := fun x hx => hp.mem_iff.mpr hx
  have lev3 : ∀ (k j : Nat) (v4 v5 v6 v7 : Sl), k < L.length → j < L.length → _ := fun k j v4 v5 v6 v7 hk hj =>
    loopFind (b := bName 4) (p := b_law_valley_v2_1) (f := fun u : Nat => PyData.int ((j : Int) + 1 + (u : Int))) (l := List.range (L.length - (j + 1))) (s := ⟨[.val (.list (L.map .int)), .val (.list (r.map .int)), .val (.int k), .val (.int j), v4, v5, v6, v7], w⟩)
      (fun u => if valP L r k j (j + 1 + u) = true then some (valR L k j (j + 1 + u)) else none) (fun s => ∃ v4 v5 v6 v7, s = ⟨[.val (.list (L.map .int)), .val (.list (r.map .int)), .val (.int k), .val (.int j), v4, v5, v6, v7], w⟩) (fun _ s => s.w = w) ⟨_, _, _, _, rfl⟩ (by
        rintro u hu s ⟨v4, v5, v6, v7, rfl⟩
        have hu2 : j + 1 + u < L.length := by simp at hu; omega
        obtain ⟨a1, m1⟩ := nth_at hk
        obtain ⟨a2, m2⟩ := nth_at hj
        obtain ⟨a3, m3⟩ := nth_at hu2
        have ec : ((j + 1 + u : Nat) : Int) = (j : Int) + 1 + (u : Int) := by omega
        rw [ec] at a3
        have i1 := idxO_mem (mr _ m1)
        have i2 := idxO_mem (mr _ m2)
        have i3 := idxO_mem (mr _ m3)
        unfold b_law_valley_v2_1 valP valR
        by_cases c1 : r.idxOf (nth' L k) < r.idxOf (nth' L j)
        · by_cases c2 : r.idxOf (nth' L (j + 1 + u)) < r.idxOf (nth' L j)
          · have d1 : (if r.idxOf (nth' L k) < r.idxOf (nth' L (j + 1 + u)) then ((r.idxOf (nth' L (j + 1 + u)) : Nat) : Int) else (r.idxOf (nth' L k) : Nat)) < (r.idxOf (nth' L j) : Nat) := by split <;> omega
            refine ⟨fun e => ?_, fun q e => ?_⟩
            · simp [c1, c2] at e
            · simp [c1, c2] at e
              subst e
              simp -implicitDefEqProofs [a1, a2, a3, i1, i2, i3]
              rw [if_pos d1]
              simp -implicitDefEqProofs
          · have d1 : ¬ (if r.idxOf (nth' L k) < r.idxOf (nth' L (j + 1 + u)) then ((r.idxOf (nth' L (j + 1 + u)) : Nat) : Int) else (r.idxOf (nth' L k) : Nat)) < (r.idxOf (nth' L j) : Nat) := by split <;> omega
            refine ⟨fun e => ?_, fun q e => ?_⟩
            · simp -implicitDefEqProofs [a1, a2, a3, i1, i2, i3]
              rw [if_neg d1]
              simp -implicitDefEqProofs
            · simp [c1, c2] at e
        · have d1 : ¬ (if r.idxOf (nth' L k) < r.idxOf (nth' L (j + 1 + u)) then ((r.idxOf (nth' L (j + 1 + u)) : Nat) : Int) else (r.idxOf (nth' L k) : Nat)) < (r.idxOf (nth' L j) : Nat) := by split <;> omega
          refine ⟨fun e => ?_, fun q e => ?_⟩
          · simp -implicitDefEqProofs [a1, a2, a3, i1, i2, i3]
            rw [if_neg d1]
            simp -implicitDefEqProofs
          · simp [c1] at e)
  have lev2 : ∀ (k : Nat) (v3 v4 v5 v6 v7 : Sl), k < L.length → _ := fun k v3 v4 v5 v6 v7 hk =>
    loopFind (b := bName 3) (p := b_law_valley_v2_2) (f := fun u : Nat => PyData.int ((k : Int) + 1 + (u : Int))) (l := List.range (L.length - (k + 1))) (s := ⟨[.val (.list (L.map .int)), .val (.list (r.map .int)), .val (.int k), v3, v4, v5, v6, v7], w⟩)
      (fun t => valI L r k (k + 1 + t)) (fun s => ∃ v3 v4 v5 v6 v7, s = ⟨[.val (.list (L.map .int)), .val (.list (r.map .int)), .val (.int k), v3, v4, v5, v6, v7], w⟩) (fun _ s => s.w = w) ⟨_, _, _, _, _, rfl⟩ (by
        rintro t ht s ⟨v3, v4, v5, v6, v7, rfl⟩
        have ht2 : k + 1 + t < L.length := by simp at ht; omega
        obtain ⟨h1, h2⟩ := lev3 k (k + 1 + t) v4 v5 v6 v7 hk ht2
        have ec : ((k + 1 + t : Nat) : Int) = (k : Int) + 1 + (t : Int) := by omega
        have hB1 : inB ((k : Int) + 1 + (t : Int) + 1) := inB_of (by omega) (by omega)
        have hB2 : inB (L.length : Int) := inB_of (by omega) (by omega)
        have et : ((L.length : Int) - ((k : Int) + 1 + (t : Int) + 1)).toNat = L.length - (k + 1 + t + 1) := by omega
        rw [ec] at h1 h2
        unfold b_law_valley_v2_2
        refine ⟨fun e => ?_, fun q e => ?_⟩
        · obtain ⟨s', e1, v4', v5', v6', v7', rfl⟩ := h1 e
          simp -implicitDefEqProofs [hB1, hB2, et, rangeD, e1]
        · obtain ⟨s', e1, hw⟩ := h2 q e
          exact ⟨s', by simp -implicitDefEqProofs [hB1, hB2, et, rangeD, e1], hw⟩)
  have lev1 := loopFind (b := bName 2) (p := b_law_valley_v2_3) (f := fun u : Nat => PyData.int (u : Int)) (l := List.range L.length) (s := ⟨[.val (.list (L.map .int)), .val (.list (r.map .int)), .no, .no, .no, .no, .no, .no], w⟩)
      (fun k => valJ L r k) (fun s => ∃ v2 v3 v4 v5 v6 v7, s = ⟨[.val (.list (L.map .int)), .val (.list (r.map .int)), v2, v3, v4, v5, v6, v7], w⟩) (fun _ s => s.w = w) ⟨_, _, _, _, _, _, rfl⟩ (by
        rintro k hk s ⟨v2, v3, v4, v5, v6, v7, rfl⟩
        have hk2 : k < L.length := by simpa using hk
        obtain ⟨h1, h2⟩ := lev2 k v3 v4 v5 v6 v7 hk2
        have hB1 : inB ((k : Int) + 1) := inB_of (by omega) (by omega)
        have hB2 : inB (L.length : Int) := inB_of (by omega) (by omega)
        have et : ((L.length : Int) - ((k : Int) + 1)).toNat = L.length - (k + 1) := by omega
        unfold b_law_valley_v2_3
        refine ⟨fun e => ?_, fun q e => ?_⟩
        · obtain ⟨s', e1, v3', v4', v5', v6', v7', rfl⟩ := h1 e
          simp -implicitDefEqProofs [hB1, hB2, et, rangeD, e1]
        · obtain ⟨s', e1, hw⟩ := h2 q e
          exact ⟨s', by simp -implicitDefEqProofs [hB1, hB2, et, rangeD, e1], hw⟩)
  have hB2 : inB (L.length : Int) := inB_of (by omega) (by omega)
  unfold F_law_valley_v2 p_law_valley_v2
  simp only [x_runF]
  cases k : valK L r with
  | none =>
    obtain ⟨s', e1, v2, v3, v4, v5, v6, v7, rfl⟩ := lev1.1 k
    simp -implicitDefEqProofs [hB2, rangeD, e1]
  | some q =>
    obtain ⟨s', e1, hw⟩ := lev1.2 q k
    have hq : ∃ d, q = .val d := by
      unfold valK valJ valI at k
      obtain ⟨k1, _, e⟩ := List.exists_of_findSome?_eq_some k
      obtain ⟨k2, _, e⟩ := List.exists_of_findSome?_eq_some e
      obtain ⟨k3, _, e⟩ := List.exists_of_findSome?_eq_some e
      split at e
      · cases e; exact ⟨_, rfl⟩
      · cases e
    obtain ⟨d, rfl⟩ := hq
    simp -implicitDefEqProofs [hB2, rangeD, e1, hw]
theorem valK_none {L r : List Int} (hL : L.Nodup) : valK L r = none ↔ noV L r := by
  unfold valK valJ valI
  simp only [List.findSome?_eq_none_iff, List.mem_range]
  constructor
  · intro h u hu t ht v hv h1 h2 h3
    have lv := List.idxOf_lt_length_iff.mpr hv
    have e : ∀ x ∈ L, nth' L (L.idxOf x) = x := fun x hx => by
      have hi := List.idxOf_lt_length_iff.mpr hx
      simp only [nth', List.getD_eq_getElem?_getD, List.getElem?_eq_getElem hi]
      exact List.getElem_idxOf hi
    have := h (L.idxOf u) (by omega) (L.idxOf t - (L.idxOf u + 1)) (by omega) (L.idxOf v - (L.idxOf t + 1)) (by omega)
    have e1 : L.idxOf u + 1 + (L.idxOf t - (L.idxOf u + 1)) = L.idxOf t := by omega
    have e2 : L.idxOf t + 1 + (L.idxOf v - (L.idxOf t + 1)) = L.idxOf v := by omega
    rw [e1, e2] at this
    unfold valP at this
    rw [e u hu, e t ht, e v hv] at this
    simp [h3.1, h3.2] at this
  · intro h k hk t ht u hu
    have g : ∀ i, i < L.length → nth' L i ∈ L ∧ L.idxOf (nth' L i) = i := fun i hi => ⟨(nth_at hi).2, nodup_idx hL hi⟩
    obtain ⟨m1, i1⟩ := g k (by omega)
    obtain ⟨m2, i2⟩ := g (k + 1 + t) (by omega)
    obtain ⟨m3, i3⟩ := g (k + 1 + t + 1 + u) (by omega)
    have := h _ m1 _ m2 _ m3 (by omega) (by omega)
    unfold valP
    simp
    intro z
    exact Nat.le_of_not_lt fun z2 => this ⟨z, z2⟩
/-- none, or three names -/
theorem valK_form {L r : List Int} : valK L r = none ∨ ∃ a b c : Int, valK L r = some (.val (.tuple [.int a, .int b, .int c])) := by
  cases k : valK L r with
  | none => exact .inl rfl
  | some q =>
    right
    unfold valK valJ valI at k
    obtain ⟨k1, _, e⟩ := List.exists_of_findSome?_eq_some k
    obtain ⟨k2, _, e⟩ := List.exists_of_findSome?_eq_some e
    obtain ⟨k3, _, e⟩ := List.exists_of_findSome?_eq_some e
    split at e
    · cases e; exact ⟨_, _, _, rfl⟩
    · cases e

end DL

noncomputable section
namespace DL
open PySem L2
def p_law_by_v2 : DSt → Flow := fseq (fSet 2 (fCall listO (pCons (fVar 0) fNil))) (fseq (fSet 3 (fUser F_ranking_on (fCons (fVar 2) (fCons (fVar 1) fNil)))) (fseq (fIfS (fOr (fNot (fB (fIsi "list" (fVar 3)))) (fOr (fB (fOp (lift2 neO) (fCall sortedO (pCons (fVar 3) fNil)) (fCall sortedO (pCons (fVar 0) fNil)))) (fOr (fNot (fB (fUserP F_law_falls (pCons (fVar 0) (pCons (fVar 3) fNil))))) (fB (fOp (lift2 neO) (fVar 2) (fVar 0)))))) (fRet (fLst fNil)) fnext) (fseq (fSet 4 (fCall listO (pCons (fVar 3) fNil))) (fseq (fSet 5 (fUserP F_number_on (pCons (fVar 2) (pCons (fVar 3) fNil)))) (fseq (fIfS (fOr (fB (fIsi "bool" (fVar 5))) (fOr (fNot (fB (fIsi "int" (fVar 5)))) (fOr (fB (fOp (lift2 neO) (fVar 5) (fVar 1))) (fOr (fB (fOp (lift2 neO) (fVar 3) (fVar 4))) (fB (fOp (lift2 neO) (fVar 2) (fVar 0))))))) (fRet (fLst fNil)) fnext) (fseq (fDrop (fApp 3 (fUn (lift1 negO) (fC (.int 7))))) (fRet (fVar 4))))))))
def F_law_by_v2 : List R → Pw → FRes := runF 6 2 p_law_by_v2
def b_law_k10_1 : DSt → Flow := fSet 4 (fOp (lift2 mulO) (fC (.int 2)) (fVar 4))
abbrev o_law_k10_1 : List PyData → DSt → Flow := loopF (bName 5) b_law_k10_1
def b_law_k10_2 : DSt → Flow := fseq (fSet 3 (fUser F_law_mixed (fCons (fVar 1) (fCons (fUser F_law_names (fCons (fVar 1) (fCons (fUser F_law_many (fCons (fVar 1) fNil)) fNil))) fNil)))) (fseq (fSet 4 (fC (.int 1))) (fseq (fFor (fLstI (fSlice (fVar 3) (fPart (fC (.int 1))) fNoPart)) (bName 5) b_law_k10_1) (fseq (fSet 6 (fUser F_law_draw (fCons (fVar 1) (fCons (fVar 4) fNil)))) (fseq (fSet 7 (fOp (lift2 ixO) (fLst (fCons (fUser F_law_draw (fCons (fVar 1) (fCons (fVar 4) fNil))) (fCons (fC (.int 0)) (fCons (fOp (lift2 subO) (fVar 4) (fC (.int 1))) fNil)))) (fUser F_law_draw (fCons (fVar 1) (fCons (fC (.int 3)) fNil))))) (fseq (fSet 8 (fUser F_law_by_v2 (fCons (fVar 3) (fCons (fVar 6) fNil)))) (fseq (fSet 9 (fUser F_law_by_v2 (fCons (fVar 3) (fCons (fVar 7) fNil)))) (fseq (fIfS (fOr (fB (fOp (lift2 eqO) (fVar 8) (fLst fNil))) (fOr (fB (fOp (lift2 eqO) (fVar 9) (fLst fNil))) (fOr (fB (fOp (lift2 neO) (fOp (lift2 eqO) (fVar 8) (fVar 9)) (fOp (lift2 eqO) (fVar 6) (fVar 7)))) (fB (fOp (lift2 neO) (fUser F_law_by_v2 (fCons (fVar 3) (fCons (fVar 6) fNil))) (fVar 8)))))) (fRet (fC (.bool false))) fnext) (fseq (fSet 10 (fUser F_law_falling (fCons (fVar 1) (fCons (fVar 3) fNil)))) (fseq (fSet 11 (fUser F_number_on (fCons (fVar 3) (fCons (fVar 10) fNil)))) (fIfS (fOr (fB (fOp (lift2 ltO) (fVar 11) (fC (.int 0)))) (fOr (fB (fOp (lift2 geO) (fVar 11) (fVar 4))) (fB (fOp (lift2 neO) (fUser F_law_by_v2 (fCons (fVar 3) (fCons (fVar 11) fNil))) (fVar 10))))) (fRet (fC (.bool false))) fnext))))))))))
abbrev o_law_k10_2 : List PyData → DSt → Flow := loopF (bName 2) b_law_k10_2
def p_law_k10 : DSt → Flow := fseq (fFor (fRng1 (pCons (fC (.int 4)) fNil)) (bName 2) b_law_k10_2) (fRet (fC (.bool true)))
def F_law_k10 : List R → Pw → FRes := runF 12 1 p_law_k10
def rkOf (L : List Int) (n : Nat) : List Int := (pick L (bitsN (L.length - 1) n)).reverse
theorem rkOf_perm {L : List Int} {n : Nat} : (rkOf L n).Perm L := (List.reverse_perm _).trans (pick_perm _ _)
theorem falling2_ok {pa : Addr} {w : Pw} {m : Int} {L : List Int} (h : WP pa w m) (hm : m < 2 ^ 59) (hl : L.length ≤ 5000) (h0 : L ≠ []) : ∃ (bs : List Bool) (r : List Int) (w' : Pw), F_law_falling [.raw (.ref pa), .val (.list ((L).map .int))] w = .ok (.new (r.map .int)) w' ∧ bs.length + 1 = L.length ∧ r = (pick L bs).reverse ∧ WP pa w' (m + 5000) := by
  obtain ⟨s', e, ⟨ls, fs, w', rfl, hp, k, hw, hk⟩, hc⟩ := whileF_inv (c := c_law_falling_1) (p := b_law_falling_2) (fun s => ∃ (ls fs : List Int) (w' : Pw), s = ⟨[.raw (.ref pa), .val (.list ((L).map .int)), .own (ls.map .int), .own (fs.map .int)], w'⟩ ∧ ((ls ≠ [] ∧ ∃ bs : List Bool, bs.length + ls.length = L.length ∧ ∀ cs, fs ++ pick ls cs = pick L (bs ++ cs)) ∨ (ls = [] ∧ ∃ bs : List Bool, bs.length + 1 = L.length ∧ fs = pick L bs)) ∧ ∃ k : Nat, WP pa w' (m + k) ∧ k + ls.length = L.length ∧ fs.length = k)
    (fun (s : DSt) => match s.d[2]? with | some (Sl.own ls) => ls.length | _ => 0) 10000 (s := ⟨[.raw (.ref pa), .val (.list ((L).map .int)), .own (L.map .int), .own []], w⟩) ⟨L, [], w, rfl, .inl ⟨h0, [], by simp, fun cs => rfl⟩, 0, by simpa using h, by simp, rfl⟩ (by show (L.map PyData.int).length < 10000; simp; omega) (by
      rintro s ⟨ls, fs, w', rfl, hp, k, hw, hk, hfk⟩
      rcases hp with ⟨n0, bs, hb, hq⟩ | ⟨rfl, hq⟩
      · left
        have ln : 0 < ls.length := List.length_pos_iff.mpr n0
        obtain ⟨r, w2, e, r0, r1, hw2⟩ := draw_ok (n := 2) hw (by omega) (by omega) (by omega)
        have hls : ltS fs.length := size_lt (by omega)
        have wk : WP pa w2 (m + ((k + 1 : Nat) : Int)) := hw2.mono (by omega)
        have fin : ∀ (x : Int) (K : List Int) (b : Bool), K.length + 1 = ls.length → (∀ cs, pick ls (b :: cs) = x :: pick K cs) → (ls = [x] ∨ K ≠ []) → b_law_falling_2 ⟨[.raw (.ref pa), .val (.list ((L).map .int)), .own (ls.map .int), .own (fs.map .int)], w'⟩ = .next ⟨[.raw (.ref pa), .val (.list ((L).map .int)), .own (K.map .int), .own ((fs ++ [x]).map .int)], w2⟩ →
            ∃ s1, c_law_falling_1 ⟨[.raw (.ref pa), .val (.list ((L).map .int)), .own (ls.map .int), .own (fs.map .int)], w'⟩ = .ok true s1 ∧ ∃ s2, b_law_falling_2 s1 = .next s2 ∧ (∃ (ls fs : List Int) (w' : Pw), s2 = ⟨[.raw (.ref pa), .val (.list ((L).map .int)), .own (ls.map .int), .own (fs.map .int)], w'⟩ ∧ ((ls ≠ [] ∧ ∃ bs : List Bool, bs.length + ls.length = L.length ∧ ∀ cs, fs ++ pick ls cs = pick L (bs ++ cs)) ∨ (ls = [] ∧ ∃ bs : List Bool, bs.length + 1 = L.length ∧ fs = pick L bs)) ∧ ∃ k : Nat, WP pa w' (m + k) ∧ k + ls.length = L.length ∧ fs.length = k) ∧ (match s2.d[2]? with | some (Sl.own ls) => ls.length | _ => 0) < (ls.map PyData.int).length := by
          intro x K b hK hpk hor hstep
          refine ⟨_, by unfold c_law_falling_1; simp -implicitDefEqProofs [n0], _, hstep, ⟨K, fs ++ [x], w2, rfl, ?_, k + 1, wk, by omega, by simp [hfk]⟩, ?_⟩
          · by_cases hK0 : K = []
            · right
              refine ⟨hK0, bs, ?_, ?_⟩
              · subst hK0; simp at hK; omega
              · have hx : ls = [x] := hor.resolve_right fun z => z hK0
                have := hq []
                rw [hx] at this
                simpa [pick_nil] using this
            · left
              refine ⟨hK0, bs ++ [b], by simp; omega, fun cs => ?_⟩
              have := hq (b :: cs)
              rw [hpk] at this
              simpa using this
          · show (K.map PyData.int).length < (ls.map PyData.int).length
            simp
            omega
        have : r = 0 ∨ r = 1 := by omega
        rcases this with rfl | rfl
        · match ls, n0, ln, hk, hb, hq, fin with
          | x :: K, _, ln, hk, hb, hq, fin =>
            have ix : ixN (K.length + 1) 0 = some 0 := ix_0 (by omega)
            have hz : inW (0 : Int) := inW_of (by omega) (by omega)
            have em : mulO (.int (K.length : Int)) (.int 0) = some (.val (.int 0)) := by
              simp at hk
              rw [mul_ok (by omega) (by omega) (by omega) (by omega)]
              simp
            refine fin x K false rfl (fun cs => pick_false) (by cases K with | nil => exact .inl rfl | cons _ _ => exact .inr (by simp)) ?_
            unfold b_law_falling_2
            simp -implicitDefEqProofs [e, em, ix, hz, hls]
        · obtain ⟨K, x, rfl⟩ := (snoc_of ls).resolve_left n0
          simp only [List.length_append, List.length_cons, List.length_nil] at hk hb ln
          have ix : ixN (K.length + 1) (K.length : Int) = some K.length := by
            unfold ixN
            rw [if_pos (by omega), if_pos (by omega)]
            simp
          have hz : inW (K.length : Int) := inW_of (by omega) (by omega)
          have em : mulO (.int (K.length : Int)) (.int 1) = some (.val (.int K.length)) := by
            rw [mul_ok (by omega) (by omega) (by omega) (by omega)]
            simp
          have hg : (K.map PyData.int ++ [PyData.int x])[K.length]? = some (.int x) := by simp
          have he : (K.map PyData.int ++ [PyData.int x]).eraseIdx K.length = K.map .int := eraseIdx_last (by simp)
          refine fin x K true (by simp) (fun cs => pick_true) (by cases K with | nil => exact .inl rfl | cons _ _ => exact .inr (by simp)) ?_
          unfold b_law_falling_2
          simp -implicitDefEqProofs [e, em, ix, hz, hls, hg, he]
      · right
        unfold c_law_falling_1
        simp -implicitDefEqProofs)
  have hn : ls = [] := by
    cases ls with
    | nil => rfl
    | cons a l =>
      exfalso
      unfold c_law_falling_1 at hc
      simp at hc
  subst hn
  obtain ⟨bs, hb, rfl⟩ := (hp.resolve_left fun z => z.1 rfl).2
  refine ⟨bs, _, w', ?_, hb, rfl, hw.mono (by omega)⟩
  unfold F_law_falling p_law_falling
  simp only [x_runF]
  simp -implicitDefEqProofs [e]
theorem by_ok {L : List Int} {n : Nat} {w : Pw} (hL : Rank L) (hn : n < pw2 (L.length - 1)) : F_law_by_v2 [.val (.list ((L).map .int)), .val (.int ((n : Nat) : Int))] w = .ok (.new ((rkOf L n).map .int)) w := by
  have l0 := hL.2.2.1
  have l1 := hL.2.2.2
  have e1 : ∀ w, F_ranking_on [.val (.list ((L).map .int)), .val (.int ((n : Nat) : Int))] w = .ok (.new ((rkOf L n).map .int)) w := fun w => ranking_on_ok hL hn
  obtain ⟨r, hr⟩ : ∃ r, r = rkOf L n := ⟨_, rfl⟩
  rw [← hr] at e1 ⊢
  have hp : r.Perm L := by rw [hr]; exact rkOf_perm
  have hf : fallB L r = true := by rw [hr]; exact fallB_iff.mpr (pick_falls hL.1 _)
  have e2 : ∀ w, F_number_on [.val (.list ((L).map .int)), .val (.list ((r).map .int))] w = .ok (.val (.int n)) w := fun w => by
    have := number_on_ok (w := w) (r := r) (bs := bitsN (L.length - 1) n) hL (by rw [bitsN_len]; omega) hr
    rwa [val_bits _ _ hn] at this
  have hd : ltS r.length := size_lt (by have := hp.length_eq; omega)
  unfold F_law_by_v2 p_law_by_v2
  simp only [x_runF]
  simp -implicitDefEqProofs [e1, e2, law_falls_ok hL hp, hf, sortI_perm_eq hp, hd]
theorem law_k10_ok : LawOk 12 p_law_k10 := by
  intro a pa ca cells ne hc hl
  have w0 : WP pa (some (pa, ca, cells, 0)) 0 := ⟨ca, cells, 0, rfl, hc, by decide, by decide⟩
  obtain ⟨s', e, v2, v3, v4, v5, v6, v7, v8, v9, v10, v11, w', hw, rfl⟩ := loopN (b := bName 2) (p := b_law_k10_2) (f := fun (k : Nat) => PyData.int (k : Int)) (l := List.range 4) (s := ⟨[.raw (.ref a), .raw (.ref pa), .no, .no, .no, .no, .no, .no, .no, .no, .no, .no], some (pa, ca, cells, 0)⟩)
    (fun i s => ∃ (v2 v3 v4 v5 v6 v7 v8 v9 v10 v11 : Sl) (w : Pw), WP pa w (1000000 * i) ∧ s = ⟨[.raw (.ref a), .raw (.ref pa), v2, v3, v4, v5, v6, v7, v8, v9, v10, v11], w⟩) ⟨_, _, _, _, _, _, _, _, _, _, _, by simpa using w0, rfl⟩ (by
      rintro i x s hi hx ⟨v2, v3, v4, v5, v6, v7, v8, v9, v10, v11, w, hw, rfl⟩
      obtain ⟨rfl, hi4⟩ := range_at hi
      obtain ⟨n, w1, e1, n1, n2, q1⟩ := many_ok hw (by omega)
      obtain ⟨ns, w2, e2, l2, d2, p2, q2⟩ := names_ok (n := n) q1 (by omega) (by omega)
      obtain ⟨L, w3, e3, p3, q3⟩ := mixedI_ok (ns := ns) q2 (by omega) (by omega)
      have rL : Rank L := Rank.perm ⟨d2, p2, by omega, by omega⟩ p3
      have l0 := rL.2.2.1
      have l1 := rL.2.2.2
      obtain ⟨s5, e5, u5, rfl⟩ := loopN (b := bName 5) (p := b_law_k10_1) (f := .int) (l := L.drop 1) (s := ⟨[.raw (.ref a), .raw (.ref pa), .val (.int (x)), .own (L.map .int), .val (.int (1)), v5, v6, v7, v8, v9, v10, v11], w3⟩)
        (fun i s => ∃ u5, s = ⟨[.raw (.ref a), .raw (.ref pa), .val (.int (x)), .own (L.map .int), .val (.int ((pw2 i : Nat) : Int)), u5, v6, v7, v8, v9, v10, v11], w3⟩) ⟨_, rfl⟩ (by
          rintro i y s hi hy ⟨u5, rfl⟩
          have hi2 := (List.getElem?_eq_some_iff.mp hi).1
          simp at hi2
          have := pw2_le (k := i) (by omega)
          have em : mulO (.int 2) (.int ((pw2 i : Nat) : Int)) = some (.val (.int ((pw2 (i + 1) : Nat) : Int))) := by
            rw [mul_ok (by omega) (by omega) (by omega) (by omega), pw2_succ]
            congr 3
          unfold b_law_k10_1
          simp -implicitDefEqProofs [em])
      have ed : (L.map PyData.int).drop 1 = (L.drop 1).map .int := by simp
      rw [List.length_drop, ← ed, List.drop_one] at e5
      have cut : cutD (L.map PyData.int) (some 1) none = (L.map PyData.int).tail := by
        rw [cutD_map, ← List.drop_one, ed]
        congr 1
        exact cut_from (k := 1)
      obtain ⟨P, hP⟩ : ∃ P, P = pw2 (L.length - 1) := ⟨_, rfl⟩
      have P0 : 0 < P := by rw [hP]; exact pw2_pos
      have P1 : P ≤ 512 := by rw [hP]; exact pw2_le (by omega)
      rw [← hP] at e5
      obtain ⟨r6, w6, e6, a6, b6, q6⟩ := draw_ok (n := P) q3 (by omega) (by omega) (by omega)
      obtain ⟨r7, w7, e7, a7, b7, q7⟩ := draw_ok (n := P) q6 (by omega) (by omega) (by omega)
      obtain ⟨r8, w8, e8, a8, b8, q8⟩ := draw_ok (n := 3) q7 (by omega) (by omega) (by omega)
      obtain ⟨o, eo, o0, o1⟩ : ∃ o : Int, atI [PyData.int r7, .int 0, .int ((P : Int) - 1)] r8 = some (.int o) ∧ 0 ≤ o ∧ o < P := by
        have : r8 = 0 ∨ r8 = 1 ∨ r8 = 2 := by omega
        rcases this with q | q | q <;> rw [q]
        · exact ⟨r7, by simp, a7, b7⟩
        · exact ⟨0, by simp, by omega, by omega⟩
        · exact ⟨(P : Int) - 1, by simp, by omega, by omega⟩
      obtain ⟨n6, rfl⟩ := Int.eq_ofNat_of_zero_le a6
      obtain ⟨no, rfl⟩ := Int.eq_ofNat_of_zero_le o0
      have t1 : ∀ w, F_law_by_v2 [.val (.list ((L).map .int)), .val (.int ((n6 : Nat) : Int))] w = .ok (.new ((rkOf L n6).map .int)) w := fun w => by_ok rL (by omega)
      have t2 : ∀ w, F_law_by_v2 [.val (.list ((L).map .int)), .val (.int ((no : Nat) : Int))] w = .ok (.new ((rkOf L no).map .int)) w := fun w => by_ok rL (by omega)
      have hPn : P = 2 ^ (L.length - 1) := hP
      have inj : rkOf L n6 = rkOf L no ↔ n6 = no := by
        constructor
        · intro h
          have h := List.reverse_inj.mp h
          have := pick_inj _ _ L rL.1 (by rw [bitsN_len, bitsN_len]) (by rw [bitsN_len]; omega) h
          have e1 := val_bits (L.length - 1) n6 (by omega)
          have e2 := val_bits (L.length - 1) no (by omega)
          rw [this, e2] at e1
          exact e1.symm
        · exact fun h => by rw [h]
      have nn : ∀ n, rkOf L n ≠ [] := fun n z => by
        have := (rkOf_perm (L := L) (n := n)).length_eq
        rw [z] at this
        simp at this
        omega
      obtain ⟨bs, r, w9, e9, hb, hr, q9⟩ := falling2_ok q8 (by omega) (L := L) (by omega) (List.length_pos_iff.mp l0)
      have vl := valA_lt bs
      have hbl : bs.length = L.length - 1 := by omega
      have hvP : valA 0 bs < P := by rw [hPn, ← hbl]; exact vl
      have t3 : ∀ w, F_number_on [.val (.list ((L).map .int)), .val (.list ((r).map .int))] w = .ok (.val (.int (valA 0 bs))) w := fun w => number_on_ok rL hb hr
      have t4 : ∀ w, F_law_by_v2 [.val (.list ((L).map .int)), .val (.int ((valA 0 bs : Nat) : Int))] w = .ok (.new (r.map .int)) w := fun w => by
        have := by_ok (w := w) (n := valA 0 bs) rL (by omega)
        unfold rkOf at this
        rw [← hbl, bits_val, ← hr] at this
        exact this
      obtain ⟨v, hv⟩ : ∃ v, v = valA 0 bs := ⟨_, rfl⟩
      rw [← hv] at t3 t4 hvP
      obtain ⟨k1, hk1⟩ : ∃ k1, k1 = rkOf L n6 := ⟨_, rfl⟩
      obtain ⟨k2, hk2⟩ : ∃ k2, k2 = rkOf L no := ⟨_, rfl⟩
      have nk1 : k1 ≠ [] := by rw [hk1]; exact nn _
      have nk2 : k2 ≠ [] := by rw [hk2]; exact nn _
      rw [← hk1, ← hk2] at inj
      have inj : k1 = k2 ↔ ((n6 : Nat) : Int) = (no : Nat) := inj.trans (by omega)
      rw [← hk1] at t1
      rw [← hk2] at t2
      have c1 : ¬ ((v : Nat) : Int) < 0 := by omega
      have c2 : ¬ ((P : Nat) : Int) ≤ (v : Nat) := by omega
      unfold b_law_k10_2
      simp -implicitDefEqProofs [e1, e2, e3, cut, e5, e6, e7, e8, eo, t1, t2, t3, t4, nk1, nk2, inj, e9, c1, c2]
      exact q9.mono (by omega))
  unfold p_law_k10
  simp -implicitDefEqProofs [rangeD, e]

end DL

noncomputable section
namespace DL
open PySem L2
def e_cut_down_1 : M R := fOp (lift2 inO) (fVar 2) (fVar 0)
abbrev l_cut_down_1 : M R := fLc (fLstI (fVar 1)) (bName 2) fYes (e_cut_down_1) [2]
def t_cut_down_2 : M Bool := fB (fOp (lift2 inO) (fVar 2) (fVar 1))
def e_cut_down_3 : M R := fVar 2
abbrev l_cut_down_3 : M R := fLc (fLstI (fVar 0)) (bName 2) (t_cut_down_2) (e_cut_down_3) [2]
def p_cut_down : DSt → Flow := fseq (fDrop (fUser F_must_be_ranking (fCons (fVar 0) fNil))) (fseq (fIfS (fOr (fB (fOp (lift2 ltO) (fCall lenO (pCons (fVar 1) fNil)) (fC (.int 1)))) (fNot (fB (fCall allO (pCons (fLc (fLstI (fVar 1)) (bName 2) fYes (e_cut_down_1) [2]) fNil))))) (fRaise "NoNames") fnext) (fRet (fLc (fLstI (fVar 0)) (bName 2) (t_cut_down_2) (e_cut_down_3) [2])))
def F_cut_down : List R → Pw → FRes := runF 3 2 p_cut_down
/-! cutting down -/
def cutL (r some : List Int) : List Int := r.filter fun x => decide (x ∈ some)
theorem mem_cut {r some : List Int} {x : Int} : x ∈ cutL r some ↔ x ∈ r ∧ x ∈ some := by simp [cutL]
theorem idx_ne {a b : Int} {l : List Int} (h : a ≠ b) : (a :: l).idxOf b = l.idxOf b + 1 := by
  have : (a == b) = false := by simpa using h
  rw [List.idxOf_cons, this]
  rfl
theorem cut_idx : ∀ {r : List Int} {p : Int → Bool} {a b : Int}, r.Nodup → a ∈ r → b ∈ r → p a = true → p b = true → ((r.filter p).idxOf a < (r.filter p).idxOf b ↔ r.idxOf a < r.idxOf b)
  | c :: r, p, a, b, hn, ha, hb, pa, pb => by
    have hn' := (List.nodup_cons.mp hn)
    by_cases hca : c = a
    · subst hca
      by_cases hcb : c = b
      · subst hcb; simp
      · have e1 : (c :: r).filter p = c :: r.filter p := by simp [pa]
        rw [e1, List.idxOf_cons_self, List.idxOf_cons_self, idx_ne hcb, idx_ne hcb]
        simp
    · by_cases hcb : c = b
      · subst hcb
        have e1 : (c :: r).filter p = c :: r.filter p := by simp [pb]
        rw [e1, List.idxOf_cons_self, List.idxOf_cons_self]
        simp
      · have ha' : a ∈ r := (List.mem_cons.mp ha).resolve_left fun e => hca e.symm
        have hb' : b ∈ r := (List.mem_cons.mp hb).resolve_left fun e => hcb e.symm
        have ih := cut_idx (p := p) hn'.2 ha' hb' pa pb
        rw [idx_ne hca, idx_ne hcb]
        by_cases pc : p c = true
        · have e1 : (c :: r).filter p = c :: r.filter p := by simp [pc]
          rw [e1, idx_ne hca, idx_ne hcb]
          omega
        · have e1 : (c :: r).filter p = r.filter p := by simp [pc]
          rw [e1]
          omega
theorem cut_order {r some : List Int} {a b : Int} (hn : r.Nodup) (ha : a ∈ cutL r some) (hb : b ∈ cutL r some) : (cutL r some).idxOf a < (cutL r some).idxOf b ↔ r.idxOf a < r.idxOf b :=
  cut_idx hn (mem_cut.mp ha).1 (mem_cut.mp hb).1 (by simpa using (mem_cut.mp ha).2) (by simpa using (mem_cut.mp hb).2)
theorem cut_nodup {r some : List Int} (hn : r.Nodup) : (cutL r some).Nodup := hn.sublist List.filter_sublist
theorem cut_rank {r some : List Int} (h : Rank r) (h0 : some ≠ []) (hs : ∀ x ∈ some, x ∈ r) : Rank (cutL r some) := by
  obtain ⟨a, l, rfl⟩ := List.exists_cons_of_ne_nil h0
  refine ⟨cut_nodup h.1, fun x hx => h.2.1 x (mem_cut.mp hx).1, ?_, Nat.le_trans (List.length_filter_le _ _) h.2.2.2⟩
  exact List.length_pos_of_mem (mem_cut.mpr ⟨hs a List.mem_cons_self, List.mem_cons_self⟩)
theorem cut_perm {r q some some' : List Int} (h : r.Nodup) (hp : q.Perm r) (hm : ∀ x, x ∈ some' ↔ x ∈ some) : (cutL q some').Perm (cutL r some) := by
  refine (List.perm_ext_iff_of_nodup (cut_nodup (hp.nodup_iff.mpr h)) (cut_nodup h)).mpr fun x => ?_
  rw [mem_cut, mem_cut, hp.mem_iff, hm]
theorem cut_cut {r some less : List Int} (h : ∀ x ∈ less, x ∈ some) : cutL (cutL r some) less = cutL r less := by
  unfold cutL
  rw [List.filter_filter]
  refine List.filter_congr fun x _ => ?_
  by_cases hx : x ∈ less
  · simp [hx, h x hx]
  · simp [hx]
theorem cut_down_ok {r some : List Int} {w : Pw} (h : Rank r) (h0 : some ≠ []) (hl : some.length ≤ 1000) (hs : ∀ x ∈ some, x ∈ r) : F_cut_down [.val (.list ((r).map .int)), .val (.list ((some).map .int))] w = .ok (.new ((cutL r some).map .int)) w := by
  have hr := h.2.2.2
  have e1 : l_cut_down_1 ⟨[.val (.list ((r).map .int)), .val (.list ((some).map .int)), .no], w⟩ = .ok (.new (some.map fun x => .bool (decide (x ∈ r)))) ⟨[.val (.list ((r).map .int)), .val (.list ((some).map .int)), .no], w⟩ := by
    refine lc_all (fun a : Int => ⟨[.val (.list ((r).map .int)), .val (.list ((some).map .int)), .val (.int (a))], w⟩) _ (f := .int) (l := some) (by simp -implicitDefEqProofs) (by omega) rfl (fun a _ => by rfl) (fun a _ => by rfl) (fun a _ => ?_)
    unfold e_cut_down_1
    simp -implicitDefEqProofs
  have e2 : l_cut_down_3 ⟨[.val (.list ((r).map .int)), .val (.list ((some).map .int)), .no], w⟩ = .ok (.new ((cutL r some).map .int)) ⟨[.val (.list ((r).map .int)), .val (.list ((some).map .int)), .no], w⟩ := by
    refine lc_gen (fun a : Int => ⟨[.val (.list ((r).map .int)), .val (.list ((some).map .int)), .val (.int (a))], w⟩) (fun x => decide (x ∈ some)) .int (f := .int) (l := r) (by simp -implicitDefEqProofs) (by omega) rfl (fun a _ => by rfl) (fun a _ => by rfl) (fun a _ => ?_) (fun a _ _ => ?_)
    · unfold t_cut_down_2
      simp -implicitDefEqProofs
    · unfold e_cut_down_3
      simp -implicitDefEqProofs
  have e3 : (some.map fun x : Int => decide (x ∈ r)).all id = true := by simpa using hs
  have hpos : 0 < some.length := List.length_pos_iff.mpr h0
  have h1 : ¬ ((some.length : Int) < 1) := by omega
  unfold F_cut_down p_cut_down
  simp only [x_runF]
  simp -implicitDefEqProofs [must_ranking_ok h, e1, e2, e3, h0, h1, boolsD_map']

end DL

noncomputable section
namespace DL
open PySem L2

/-! what falls is taken from the ends -/
theorem pick_of : ∀ (n : Nat) (L q : List Int), L.length = n + 1 → L.Nodup → q.Perm L → (∀ u ∈ L, ∀ t ∈ L, ∀ v ∈ L, L.idxOf u < L.idxOf t → L.idxOf t < L.idxOf v → ¬ (q.idxOf t < q.idxOf u ∧ q.idxOf t < q.idxOf v)) → ∃ bs : List Bool, bs.length = n ∧ q = pick L bs
  | 0, L, q, hl, _, hp, _ => by
    obtain ⟨x, rfl⟩ := List.length_eq_one_iff.mp hl
    exact ⟨[], rfl, List.perm_singleton.mp hp⟩
  | n + 1, L, q, hl, hn, hp, h => by
    have hq : q.Nodup := hp.nodup_iff.mpr hn
    match q, hp, hq, h with
    | [], hp, _, _ => have := hp.length_eq; simp at this; omega
    | t :: q, hp, hq, h =>
      have htL : t ∈ L := hp.mem_iff.mp List.mem_cons_self
      have hq' := List.nodup_cons.mp hq
      match L, hl, hn, hp, h, htL with
      | a :: M, hl, hn, hp, h, htL =>
        have hn' := List.nodup_cons.mp hn
        by_cases ea : t = a
        · subst ea
          have hp' : q.Perm M := List.perm_cons t |>.mp hp
          obtain ⟨bs, hb, e⟩ := pick_of n M q (by simpa using hl) hn'.2 hp' (by
            intro u hu s hs v hv h1 h2 h3
            have nu : t ≠ u := fun e => hn'.1 (e ▸ hu)
            have ns : t ≠ s := fun e => hn'.1 (e ▸ hs)
            have nv : t ≠ v := fun e => hn'.1 (e ▸ hv)
            refine h u (List.mem_cons_of_mem _ hu) s (List.mem_cons_of_mem _ hs) v (List.mem_cons_of_mem _ hv) ?_ ?_ ⟨?_, ?_⟩
            · rw [idx_ne' nu, idx_ne' ns]; omega
            · rw [idx_ne' nv, idx_ne' ns]; omega
            · rw [idx_ne' nu, idx_ne' ns]; omega
            · rw [idx_ne' nv, idx_ne' ns]; omega)
          exact ⟨false :: bs, by simp [hb], by rw [pick_false, e]⟩
        · obtain ⟨K, z, eK⟩ : ∃ K z, a :: M = K ++ [z] := (snoc_of (a :: M)).resolve_left (by simp)
          rw [eK] at hn hp h htL hl
          have hzK : z ∉ K := fun h => (List.nodup_append.mp hn).2.2 z h z List.mem_cons_self rfl
          by_cases ez : t = z
          · subst ez
            have hp' : q.Perm K := by
              have := hp.trans (List.perm_append_comm (l₁ := K) (l₂ := [t]))
              exact (List.perm_cons t).mp this
            obtain ⟨bs, hb, e⟩ := pick_of n K q (by simpa using hl) (List.nodup_append.mp hn).1 hp' (by
              intro u hu s hs v hv h1 h2 h3
              have nu : t ≠ u := fun e => hzK (e ▸ hu)
              have ns : t ≠ s := fun e => hzK (e ▸ hs)
              have nv : t ≠ v := fun e => hzK (e ▸ hv)
              refine h u (List.mem_append_left _ hu) s (List.mem_append_left _ hs) v (List.mem_append_left _ hv) ?_ ?_ ⟨?_, ?_⟩
              · rw [idx_app hu, idx_app hs]; omega
              · rw [idx_app hv, idx_app hs]; omega
              · rw [idx_ne' nu, idx_ne' ns]; omega
              · rw [idx_ne' nv, idx_ne' ns]; omega)
            exact ⟨true :: bs, by simp [hb], by rw [eK, pick_true, e]⟩
          · exfalso
            have htK : t ∈ K := (List.mem_append.mp htL).resolve_right (by simpa using ez)
            have mz : z ∈ K ++ [z] := by simp
            have ma : a ∈ K ++ [z] := by rw [← eK]; exact List.mem_cons_self
            refine h a ma t htL z mz ?_ ?_ ⟨?_, ?_⟩
            · rw [← eK, List.idxOf_cons_self, idx_ne' (Ne.symm ea)]; omega
            · rw [idx_last hzK, idx_app htK]; exact List.idxOf_lt_length_iff.mpr htK
            · rw [List.idxOf_cons_self, idx_ne' ea]; omega
            · rw [List.idxOf_cons_self, idx_ne' ez]; omega
theorem falls_pick {L r : List Int} (hL : L.Nodup) (h0 : 0 < L.length) (hp : r.Perm L) (h : noV L r) : ∃ bs : List Bool, bs.length + 1 = L.length ∧ r = (pick L bs).reverse := by
  have hr : r.Nodup := hp.nodup_iff.mpr hL
  have hrr : r.reverse.Nodup := (List.reverse_perm r).nodup_iff.mpr hr
  obtain ⟨bs, hb, e⟩ := pick_of (L.length - 1) L r.reverse (by omega) hL ((List.reverse_perm r).trans hp) (by
    intro u hu t ht v hv h1 h2 ⟨g1, g2⟩
    have m : ∀ x ∈ L, x ∈ r := fun x hx => hp.mem_iff.mpr hx
    rw [rev_ix hr (m u hu), rev_ix hr (m t ht)] at g1
    rw [rev_ix hr (m v hv), rev_ix hr (m t ht)] at g2
    exact h u hu t ht v hv h1 h2 ⟨by omega, by omega⟩)
  exact ⟨bs, by omega, by rw [← e, List.reverse_reverse]⟩
/-- cut down it falls still -/
theorem noV_cut {L r some : List Int} (hL : L.Nodup) (hp : r.Perm L) (h : noV L r) : noV (cutL L some) (cutL r some) := by
  have hr : r.Nodup := hp.nodup_iff.mpr hL
  have m : ∀ x, x ∈ cutL L some → x ∈ cutL r some := fun x hx => by
    rw [mem_cut] at hx ⊢
    exact ⟨hp.mem_iff.mpr hx.1, hx.2⟩
  intro u hu t ht v hv h1 h2 ⟨g1, g2⟩
  rw [cut_order hL hu ht] at h1
  rw [cut_order hL ht hv] at h2
  rw [cut_order hr (m u hu) (m t ht)] at g1
  rw [cut_order hr (m v hv) (m t ht)] at g2
  exact h u (mem_cut.mp hu).1 t (mem_cut.mp ht).1 v (mem_cut.mp hv).1 h1 h2 ⟨g1, g2⟩
/-- three names show it -/
theorem noV_three {L r T : List Int} {u t v : Int} (hL : L.Nodup) (hp : r.Perm L) (hu : u ∈ L) (ht : t ∈ L) (hv : v ∈ L) (mu : u ∈ T) (mt : t ∈ T) (mv : v ∈ T) (h1 : L.idxOf u < L.idxOf t) (h2 : L.idxOf t < L.idxOf v) (h : noV (cutL L T) (cutL r T)) : ¬ (r.idxOf u < r.idxOf t ∧ r.idxOf v < r.idxOf t) := by
  have hr : r.Nodup := hp.nodup_iff.mpr hL
  have a1 := mem_cut.mpr ⟨hu, mu⟩
  have a2 := mem_cut.mpr ⟨ht, mt⟩
  have a3 := mem_cut.mpr ⟨hv, mv⟩
  have b1 := mem_cut.mpr ⟨hp.mem_iff.mpr hu, mu⟩
  have b2 := mem_cut.mpr ⟨hp.mem_iff.mpr ht, mt⟩
  have b3 := mem_cut.mpr ⟨hp.mem_iff.mpr hv, mv⟩
  have := h u a1 t a2 v a3 ((cut_order hL a1 a2).mpr h1) ((cut_order hL a2 a3).mpr h2)
  rwa [cut_order hr b1 b2, cut_order hr b3 b2] at this

end DL

noncomputable section
namespace DL
open PySem L2
def e_grown_1 : M R := fOp (lift2 addO) (fLst (fCons (fVar 2) fNil)) (fVar 3)
abbrev l_grown_1 : M R := fLc (fLstI (fVar 1)) (bName 3) fYes (e_grown_1) [3]
def e_grown_2 : M R := fOp (lift2 addO) (fVar 3) (fLst (fCons (fVar 2) fNil))
abbrev l_grown_2 : M R := fLc (fLstI (fVar 1)) (bName 3) fYes (e_grown_2) [3]
def b_grown_3 : DSt → Flow := fSet 1 (fOp (lift2 addO) (fLc (fLstI (fVar 1)) (bName 3) fYes (e_grown_1) [3]) (fLc (fLstI (fVar 1)) (bName 3) fYes (e_grown_2) [3]))
abbrev o_grown_3 : List PyData → DSt → Flow := loopF (bName 2) b_grown_3
def p_grown : DSt → Flow := fseq (fSet 1 (fLst (fCons (fSlice (fVar 0) fNoPart (fPart (fC (.int 1)))) fNil))) (fseq (fFor (fLstI (fSlice (fVar 0) (fPart (fC (.int 1))) fNoPart)) (bName 2) b_grown_3) (fRet (fCall sortedO (pCons (fVar 1) fNil))))
def F_grown : List R → Pw → FRes := runF 4 1 p_grown
def e_is_folk_1 : M R := fUser F_is_ranking (fCons (fVar 1) fNil)
abbrev l_is_folk_1 : M R := fLc (fLstI (fVar 0)) (bName 1) fYes (e_is_folk_1) [1]
def e_is_folk_2 : M R := fOp (lift2 eqO) (fCall sortedO (pCons (fVar 1) fNil)) (fCall sortedO (pCons (fOp (lift2 ixO) (fVar 0) (fC (.int 0))) fNil))
abbrev l_is_folk_2 : M R := fLc (fLstI (fVar 0)) (bName 1) fYes (e_is_folk_2) [1]
def p_is_folk : DSt → Flow := fseq (fIfS (fOr (fNot (fB (fIsi "list" (fVar 0)))) (fOr (fB (fOp (lift2 ltO) (fCall lenO (pCons (fVar 0) fNil)) (fC (.int 1)))) (fB (fOp (lift2 gtO) (fCall lenO (pCons (fVar 0) fNil)) (fC (.int 20)))))) (fRet (fC (.bool false))) fnext) (fseq (fIfS (fNot (fB (fCall allO (pCons (fLc (fLstI (fVar 0)) (bName 1) fYes (e_is_folk_1) [1]) fNil)))) (fRet (fC (.bool false))) fnext) (fRet (fCall allO (pCons (fLc (fLstI (fVar 0)) (bName 1) fYes (e_is_folk_2) [1]) fNil))))
def F_is_folk : List R → Pw → FRes := runF 2 1 p_is_folk
def p_must_be_folk : DSt → Flow := fIfS (fNot (fB (fUser F_is_folk (fCons (fVar 0) fNil)))) (fRaise "NoFolk") fnext
def F_must_be_folk : List R → Pw → FRes := runF 1 1 p_must_be_folk
def e_lines_for_1 : M R := fUser F_does_fall (fCons (fVar 1) (fCons (fVar 2) fNil))
abbrev l_lines_for_1 : M R := fLc (fLstI (fVar 0)) (bName 2) fYes (e_lines_for_1) [2]
def t_lines_for_2 : M Bool := fB (fCall allO (pCons (fLc (fLstI (fVar 0)) (bName 2) fYes (e_lines_for_1) [2]) fNil))
def e_lines_for_3 : M R := fVar 1
abbrev l_lines_for_3 : M R := fLc (fLstI (fUser F_grown (fCons (fOp (lift2 ixO) (fVar 0) (fC (.int 0))) fNil))) (bName 1) (t_lines_for_2) (e_lines_for_3) [1]
def p_lines_for : DSt → Flow := fRet (fLc (fLstI (fUser F_grown (fCons (fOp (lift2 ixO) (fVar 0) (fC (.int 0))) fNil))) (bName 1) (t_lines_for_2) (e_lines_for_3) [1])
def F_lines_for : List R → Pw → FRes := runF 3 1 p_lines_for
def p_all_lines : DSt → Flow := fseq (fDrop (fUser F_must_be_folk (fCons (fVar 0) fNil))) (fRet (fUser F_lines_for (fCons (fVar 0) fNil)))
def F_all_lines : List R → Pw → FRes := runF 1 1 p_all_lines
/-! lines made from the best name outwards -/
def grS (F : List (List Int)) (a : Int) : List (List Int) := F.map (fun l => a :: l) ++ F.map fun l => l ++ [a]
def grL (r : List Int) : List (List Int) := (r.drop 1).foldl grS [r.take 1]
def grownL (r : List Int) : List (List Int) := sortLL (grL r)
theorem grS_len {F : List (List Int)} {a : Int} : (grS F a).length = 2 * F.length := by simp [grS]; omega
theorem gr_len : ∀ (l : List Int) (F : List (List Int)), (l.foldl grS F).length = 2 ^ l.length * F.length
  | [], F => by simp
  | a :: l, F => by
    rw [List.foldl_cons, gr_len l, grS_len, List.length_cons, Nat.pow_succ, Nat.mul_assoc]
theorem mem_gr {x : Int} : ∀ (n : Nat) (l ℓ : List Int), l.length = n → (ℓ ∈ l.foldl grS [[x]] ↔ ∃ bs : List Bool, bs.length = n ∧ ℓ.length = n + 1 ∧ pick ℓ bs = (x :: l).reverse)
  | 0, l, ℓ, h => by
    rw [List.length_eq_zero_iff.mp h]
    simp
    constructor
    · rintro rfl; exact ⟨rfl, rfl⟩
    · rintro ⟨_, h⟩; exact h
  | n + 1, l, ℓ, h => by
    obtain ⟨K, a, rfl⟩ := (snoc_of l).resolve_left (by rintro rfl; simp at h)
    have ih := fun ℓ => mem_gr (x := x) n K ℓ (by simpa using h)
    have er : (x :: (K ++ [a])).reverse = a :: (x :: K).reverse := by simp
    rw [List.foldl_append, er]
    show ℓ ∈ grS (K.foldl grS [[x]]) a ↔ _
    unfold grS
    rw [List.mem_append, List.mem_map, List.mem_map]
    constructor
    · rintro (⟨m, hm, rfl⟩ | ⟨m, hm, rfl⟩)
      · obtain ⟨bs, h1, h2, h3⟩ := (ih m).mp hm
        exact ⟨false :: bs, by simp [h1], by simp [h2], by rw [pick_false, h3]⟩
      · obtain ⟨bs, h1, h2, h3⟩ := (ih m).mp hm
        exact ⟨true :: bs, by simp [h1], by simp [h2], by rw [pick_true, h3]⟩
    · rintro ⟨bs, h1, h2, h3⟩
      match bs, h1 with
      | b :: bs, h1 =>
        cases b with
        | false =>
          match ℓ, h2 with
          | c :: m, h2 =>
            rw [pick_false] at h3
            injection h3 with e1 e2
            subst e1
            exact .inl ⟨m, (ih m).mpr ⟨bs, by simpa using h1, by simpa using h2, e2⟩, rfl⟩
        | true =>
          obtain ⟨m, c, rfl⟩ := (snoc_of ℓ).resolve_left (by rintro rfl; simp at h2)
          rw [pick_true] at h3
          injection h3 with e1 e2
          subst e1
          exact .inr ⟨m, (ih m).mpr ⟨bs, by simpa using h1, by simpa using h2, e2⟩, rfl⟩
/-- just the lines on which it falls -/
theorem mem_grown {r ℓ : List Int} (hr : r.Nodup) (h0 : r ≠ []) : ℓ ∈ grownL r ↔ r.Perm ℓ ∧ noV ℓ r := by
  unfold grownL
  rw [mem_sortLL]
  obtain ⟨x, l, rfl⟩ := List.exists_cons_of_ne_nil h0
  show ℓ ∈ l.foldl grS [[x]] ↔ _
  rw [mem_gr l.length l ℓ rfl]
  constructor
  · rintro ⟨bs, h1, h2, h3⟩
    have p : (x :: l).Perm ℓ := by
      have := pick_perm bs ℓ
      rw [h3] at this
      exact (List.reverse_perm _).symm.trans this
    have := pick_falls (p.nodup_iff.mp hr) bs
    rw [h3, List.reverse_reverse] at this
    exact ⟨p, this⟩
  · rintro ⟨p, h⟩
    have hl := p.length_eq
    obtain ⟨bs, hb, e⟩ := falls_pick (p.nodup_iff.mp hr) (by rw [← hl]; simp) p h
    refine ⟨bs, ?_, by rw [← hl]; simp, by rw [e, List.reverse_reverse]⟩
    rw [← hl] at hb
    simpa using hb
theorem grown_ok {r : List Int} {w : Pw} (h0 : r ≠ []) (hl : r.length ≤ 10) : F_grown [.val (.list ((r).map .int))] w = .ok (.new ((grownL r).map llD)) w := by
  have hr0 : 0 < r.length := List.length_pos_iff.mpr h0
  have step : ∀ (F : List (List Int)) (a : Int), F.length ≤ 600 → (∀ x ∈ F, x.length ≤ 10) → b_grown_3 ⟨[.val (.list ((r).map .int)), .own (F.map llD), .val (.int (a)), .no], w⟩ = .next ⟨[.val (.list ((r).map .int)), .own ((grS F a).map llD), .val (.int (a)), .no], w⟩ := by
    intro F a hF hx
    have e1 : l_grown_1 ⟨[.val (.list ((r).map .int)), .own (F.map llD), .val (.int (a)), .no], w⟩ = .ok (.new (F.map fun l => llD (a :: l))) ⟨[.val (.list ((r).map .int)), .val (.list (F.map llD)), .val (.int (a)), .no], w⟩ := by
      refine lc_all (fun x : List Int => ⟨[.val (.list ((r).map .int)), .val (.list (F.map llD)), .val (.int (a)), .val (llD x)], w⟩) _ (f := llD) (l := F) (by simp -implicitDefEqProofs) (by omega) rfl (fun a _ => by rfl) (fun a _ => by rfl) (fun x hm => ?_)
      have := hx x hm
      have hs : leS (1 + x.length) := size_le (by omega)
      unfold e_grown_1
      simp -implicitDefEqProofs [llD, hs]
    have e2 : l_grown_2 ⟨[.val (.list ((r).map .int)), .val (.list (F.map llD)), .val (.int (a)), .no], w⟩ = .ok (.new (F.map fun l => llD (l ++ [a]))) ⟨[.val (.list ((r).map .int)), .val (.list (F.map llD)), .val (.int (a)), .no], w⟩ := by
      refine lc_all (fun x : List Int => ⟨[.val (.list ((r).map .int)), .val (.list (F.map llD)), .val (.int (a)), .val (llD x)], w⟩) _ (f := llD) (l := F) (by simp -implicitDefEqProofs) (by omega) rfl (fun a _ => by rfl) (fun a _ => by rfl) (fun x hm => ?_)
      have := hx x hm
      have hs : leS (x.length + 1) := size_le (by omega)
      unfold e_grown_2
      simp -implicitDefEqProofs [llD, hs]
    have hs : leS (F.length + F.length) := size_le (by omega)
    have em : (F.map fun l => llD (a :: l)) ++ (F.map fun l => llD (l ++ [a])) = (grS F a).map llD := by
      unfold grS
      rw [List.map_append, List.map_map, List.map_map]
      rfl
    unfold b_grown_3
    simp -implicitDefEqProofs [e1, e2, hs, em]
  obtain ⟨s', e, v2, ⟨hx, rfl⟩⟩ := loopN (b := bName 2) (p := b_grown_3) (f := .int) (l := r.drop 1) (s := ⟨[.val (.list ((r).map .int)), .own ([r.take 1].map llD), .no, .no], w⟩)
    (fun i s => ∃ v2, (∀ x ∈ ((r.drop 1).take i).foldl grS [r.take 1], x.length ≤ i + 1) ∧ s = ⟨[.val (.list ((r).map .int)), .own ((((r.drop 1).take i).foldl grS [r.take 1]).map llD), v2, .no], w⟩) ⟨.no, by simp; omega, rfl⟩ (by
      rintro i a s hi ha ⟨v2, hx, rfl⟩
      have hi2 := (List.getElem?_eq_some_iff.mp hi).1
      simp at hi2
      rw [take_succ hi, List.foldl_append]
      obtain ⟨F, hF⟩ : ∃ F, F = ((r.drop 1).take i).foldl grS [r.take 1] := ⟨_, rfl⟩
      have lF : F.length ≤ 600 := by
        rw [hF, gr_len]
        have : 2 ^ ((r.drop 1).take i).length ≤ 2 ^ 9 := Nat.pow_le_pow_right (by decide) (by simp; omega)
        simp only [List.length_cons, List.length_nil]
        omega
      rw [← hF] at hx ⊢
      have := step F a lF fun x hm => by have := hx x hm; omega
      refine ⟨_, by unfold bod; simp -implicitDefEqProofs [this], .val (.int a), ?_, rfl⟩
      intro x hm
      show x.length ≤ i + 1 + 1
      have h2 : x ∈ F.map (fun l => a :: l) ++ F.map fun l => l ++ [a] := hm
      rw [List.mem_append, List.mem_map, List.mem_map] at h2
      rcases h2 with ⟨m, h3, rfl⟩ | ⟨m, h3, rfl⟩
      · have := hx m h3; simp; omega
      · have := hx m h3; simp; omega)
  rw [List.take_length] at e
  have ed : (r.map PyData.int).drop 1 = (r.drop 1).map .int := by simp
  have et : (r.map PyData.int).take 1 = (r.take 1).map .int := by simp
  have c1 : cutD (r.map PyData.int) none (some 1) = (r.take 1).map .int := by
    rw [cutD_map]
    congr 1
    exact cut_to (k := 1)
  have c2 : cutD (r.map PyData.int) (some 1) none = (r.drop 1).map .int := by
    rw [cutD_map]
    congr 1
    exact cut_from (k := 1)
  obtain ⟨T, hT⟩ : ∃ T, T = r.take 1 := ⟨_, rfl⟩
  obtain ⟨D, hD⟩ : ∃ D, D = r.drop 1 := ⟨_, rfl⟩
  rw [← hT] at c1 e
  rw [← hD] at c2 e
  have es : sortedO [.list ((D.foldl grS [T]).map llD)] = some (.new ((grownL r).map llD)) := by
    rw [sortedO_ll, hD, hT]
    rfl
  have eT : [T].map llD = [PyData.list (T.map .int)] := rfl
  rw [eT] at e
  unfold F_grown p_grown
  simp only [x_runF]
  simp -implicitDefEqProofs [c1, c2, e, es]
theorem grown_len {r : List Int} : (grownL r).length = 2 ^ (r.length - 1) := by
  unfold grownL
  rw [(sortLL_perm _).length_eq]
  unfold grL
  rw [gr_len]
  simp

end DL

noncomputable section
namespace DL
open PySem L2

def Folk (f : List (List Int)) : Prop := 0 < f.length ∧ f.length ≤ 20 ∧ ∀ r ∈ f, Rank r ∧ ∀ q ∈ f, q.Perm r
theorem folk_at0 {f : List (List Int)} (h : 0 < f.length) : (f.map llD)[0]? = some (llD (f.headD [])) := by
  cases f with
  | nil => simp at h
  | cons a f => rfl
theorem head_mem {f : List (List Int)} (h : 0 < f.length) : f.headD [] ∈ f := by
  cases f with
  | nil => simp at h
  | cons a f => exact List.mem_cons_self
theorem is_folk_ok {f : List (List Int)} {w : Pw} (h : Folk f) : F_is_folk [.val (.list ((f).map llD))] w = .ok (.val (.bool true)) w := by
  obtain ⟨h0, h1, h2⟩ := h
  obtain ⟨a, f', rfl⟩ := List.exists_cons_of_ne_nil (List.length_pos_iff.mp h0)
  obtain ⟨f, hf⟩ : ∃ f, f = a :: f' := ⟨_, rfl⟩
  rw [← hf] at h0 h1 h2 ⊢
  have ma : a ∈ f := by rw [hf]; exact List.mem_cons_self
  have e0 : (f.map llD)[0]? = some (llD a) := by rw [hf]; rfl
  have e0' : f[0]? = some a := by rw [hf]; rfl
  have e1 : l_is_folk_1 ⟨[.val (.list ((f).map llD)), .no], w⟩ = .ok (.new (f.map fun _ => .bool true)) ⟨[.val (.list ((f).map llD)), .no], w⟩ := by
    refine lc_all (fun x : List Int => ⟨[.val (.list ((f).map llD)), .val (llD x)], w⟩) _ (f := llD) (l := f) (by simp -implicitDefEqProofs) (by omega) rfl (fun a _ => by rfl) (fun a _ => by rfl) (fun x hx => ?_)
    unfold e_is_folk_1
    simp -implicitDefEqProofs [llD, is_ranking_ok (h2 x hx).1]
  have e2 : l_is_folk_2 ⟨[.val (.list ((f).map llD)), .no], w⟩ = .ok (.new (f.map fun _ => .bool true)) ⟨[.val (.list ((f).map llD)), .no], w⟩ := by
    refine lc_all (fun x : List Int => ⟨[.val (.list ((f).map llD)), .val (llD x)], w⟩) _ (f := llD) (l := f) (by simp -implicitDefEqProofs) (by omega) rfl (fun a _ => by rfl) (fun a _ => by rfl) (fun x hx => ?_)
    have hs := sortI_perm_eq ((h2 x hx).2 a ma)
    unfold e_is_folk_2
    simp -implicitDefEqProofs [e0', llD, hs]
  have eb : boolsD (f.map fun _ => PyData.bool true) = some (f.map fun _ => true) := boolsD_map' (f := fun _ => true)
  have ea : (f.map fun _ => true).all id = true := by simp
  have c1 : ¬ ((f.length : Nat) : Int) < 1 := by omega
  have c2 : ¬ (20 : Int) < (f.length : Nat) := by omega
  have c3 : f ≠ [] := by rw [hf]; simp
  unfold F_is_folk p_is_folk
  simp only [x_runF]
  simp -implicitDefEqProofs [e1, e2, eb, ea, c1, c2, c3]
theorem must_folk_ok {f : List (List Int)} {w : Pw} (h : Folk f) : F_must_be_folk [.val (.list ((f).map llD))] w = .ok (.val .none) w := by
  unfold F_must_be_folk p_must_be_folk
  simp only [x_runF]
  simp -implicitDefEqProofs [is_folk_ok h]
def linesF (f : List (List Int)) : List (List Int) := (grownL (f.headD [])).filter fun ℓ => f.all fun r => fallB ℓ r
theorem mem_linesF {f : List (List Int)} (h : Folk f) {ℓ : List Int} : ℓ ∈ linesF f ↔ ∀ r ∈ f, r.Perm ℓ ∧ noV ℓ r := by
  obtain ⟨h0, h1, h2⟩ := h
  have hm := head_mem h0
  obtain ⟨rk, hp⟩ := h2 _ hm
  unfold linesF
  rw [List.mem_filter, mem_grown rk.1 (List.length_pos_iff.mp rk.2.2.1), List.all_eq_true]
  constructor
  · rintro ⟨⟨p, _⟩, h⟩ r hr
    exact ⟨(hp r hr).trans p, fallB_iff.mp (h r hr)⟩
  · intro h
    exact ⟨h _ hm, fun r hr => fallB_iff.mpr (h r hr).2⟩
theorem lines_for_ok {f : List (List Int)} {w : Pw} (h : Folk f) : F_lines_for [.val (.list ((f).map llD))] w = .ok (.new ((linesF f).map llD)) w := by
  obtain ⟨h0, h1, h2⟩ := h
  have hm := head_mem h0
  obtain ⟨rk, hp⟩ := h2 _ hm
  obtain ⟨a, ea⟩ : ∃ a, a = f.headD [] := ⟨_, rfl⟩
  rw [← ea] at hm rk hp
  have e0' : f[0]? = some a := by
    cases f with
    | nil => simp at h0
    | cons b f => rw [ea]; rfl
  have a0 : a ≠ [] := List.length_pos_iff.mp rk.2.2.1
  have inner : ∀ ℓ ∈ grownL a, l_lines_for_1 ⟨[.val (.list ((f).map llD)), .val (llD ℓ), .no], w⟩ = .ok (.new (f.map fun r => .bool (fallB ℓ r))) ⟨[.val (.list ((f).map llD)), .val (llD ℓ), .no], w⟩ := by
    intro ℓ hℓ
    have pℓ := ((mem_grown rk.1 a0).mp hℓ).1
    refine lc_all (fun x : List Int => ⟨[.val (.list ((f).map llD)), .val (llD ℓ), .val (llD x)], w⟩) _ (f := llD) (l := f) (by simp -implicitDefEqProofs) (by omega) rfl (fun a _ => by rfl) (fun a _ => by rfl) (fun x hx => ?_)
    unfold e_lines_for_1
    simp -implicitDefEqProofs [llD, does_fall_ok (rk.perm pℓ.symm) ((hp x hx).trans pℓ)]
  have e1 : l_lines_for_3 ⟨[.val (.list ((f).map llD)), .no, .no], w⟩ = .ok (.new ((linesF f).map llD)) ⟨[.val (.list ((f).map llD)), .no, .no], w⟩ := by
    unfold linesF
    rw [← ea]
    refine lc_gen (fun x : List Int => ⟨[.val (.list ((f).map llD)), .val (llD x), .no], w⟩) _ llD (f := llD) (l := grownL a) ?_ ?_ rfl (fun a _ => by rfl) (fun a _ => by rfl) (fun x hx => ?_) (fun x hx _ => ?_)
    · simp -implicitDefEqProofs [e0', llD, grown_ok a0 rk.2.2.2]
    · rw [grown_len]
      have : 2 ^ (a.length - 1) ≤ 2 ^ 9 := Nat.pow_le_pow_right (by decide) (by have := rk.2.2.2; omega)
      omega
    · have eb : boolsD (f.map fun r => PyData.bool (fallB x r)) = some (f.map fun r => fallB x r) := boolsD_map'
      unfold t_lines_for_2
      simp -implicitDefEqProofs [inner x hx, eb, List.all_map]
    · unfold e_lines_for_3
      simp -implicitDefEqProofs [llD]
  unfold F_lines_for p_lines_for
  simp only [x_runF]
  simp -implicitDefEqProofs [e1]
theorem all_lines_ok {f : List (List Int)} {w : Pw} (h : Folk f) : F_all_lines [.val (.list ((f).map llD))] w = .ok (.new ((linesF f).map llD)) w := by
  unfold F_all_lines p_all_lines
  simp only [x_runF]
  simp -implicitDefEqProofs [must_folk_ok h, lines_for_ok h]

end DL

noncomputable section
namespace DL
open PySem L2
def p_lines_of : DSt → Flow := fseq (fDrop (fUser F_must_be_ranking (fCons (fVar 0) fNil))) (fRet (fUser F_grown (fCons (fVar 0) fNil)))
def F_lines_of : List R → Pw → FRes := runF 1 1 p_lines_of
def b_law_orders_1 : DSt → Flow := fDrop (fApp 3 (fOp (lift2 addO) (fOp (lift2 addO) (fSlice (fVar 4) fNoPart (fPart (fVar 5))) (fLst (fCons (fVar 2) fNil))) (fSlice (fVar 4) (fPart (fVar 5)) fNoPart)))
abbrev o_law_orders_1 : List PyData → DSt → Flow := loopF (bName 5) b_law_orders_1
def b_law_orders_2 : DSt → Flow := fFor (fRng1 (pCons (fOp (lift2 addO) (fCall lenO (pCons (fVar 4) fNil)) (fC (.int 1))) fNil)) (bName 5) b_law_orders_1
abbrev o_law_orders_2 : List PyData → DSt → Flow := loopF (bName 4) b_law_orders_2
def b_law_orders_3 : DSt → Flow := fseq (fSet 3 (fLst fNil)) (fseq (fFor (fLstI (fVar 1)) (bName 4) b_law_orders_2) (fSet 1 (fVar 3)))
abbrev o_law_orders_3 : List PyData → DSt → Flow := loopF (bName 2) b_law_orders_3
def p_law_orders : DSt → Flow := fseq (fSet 1 (fLst (fCons (fLst fNil) fNil))) (fseq (fFor (fLstI (fVar 0)) (bName 2) b_law_orders_3) (fRet (fVar 1)))
def F_law_orders : List R → Pw → FRes := runF 6 1 p_law_orders
def t_law_told_v9_1 : M Bool := fB (fUser F_law_falls (fCons (fVar 0) (fCons (fVar 5) fNil)))
def e_law_told_v9_2 : M R := fVar 5
abbrev l_law_told_v9_2 : M R := fLc (fLstI (fVar 1)) (bName 5) (t_law_told_v9_1) (e_law_told_v9_2) [5]
def e_law_told_v9_3 : M R := fUser F_ranking_on (fCons (fVar 0) (fCons (fVar 6) fNil))
abbrev l_law_told_v9_3 : M R := fLc (fRng1 (pCons (fVar 3) fNil)) (bName 6) fYes (e_law_told_v9_3) [6]
def e_law_told_v9_4 : M R := fUser F_number_on (fCons (fVar 0) (fCons (fVar 7) fNil))
abbrev l_law_told_v9_4 : M R := fLc (fLstI (fVar 4)) (bName 7) fYes (e_law_told_v9_4) [7]
def b_law_told_v9_5 : DSt → Flow := fIfS (fB (fOp (lift2 neO) (fUser F_falls (fCons (fVar 0) (fCons (fVar 5) fNil))) (fOp (lift2 inO) (fVar 5) (fVar 2)))) (fRet (fC (.bool false))) fnext
abbrev o_law_told_v9_5 : List PyData → DSt → Flow := loopF (bName 5) b_law_told_v9_5
def p_law_told_v9 : DSt → Flow := fseq (fSet 2 (fCall sortedO (pCons (fLc (fLstI (fVar 1)) (bName 5) (t_law_told_v9_1) (e_law_told_v9_2) [5]) fNil))) (fseq (fSet 3 (fCall lenO (pCons (fVar 2) fNil))) (fseq (fSet 4 (fLc (fRng1 (pCons (fVar 3) fNil)) (bName 6) fYes (e_law_told_v9_3) [6])) (fseq (fIfS (fOr (fB (fOp (lift2 neO) (fCall sortedO (pCons (fVar 4) fNil)) (fVar 2))) (fB (fOp (lift2 neO) (fLc (fLstI (fVar 4)) (bName 7) fYes (e_law_told_v9_4) [7]) (fLRng1 (fVar 3))))) (fRet (fC (.bool false))) fnext) (fseq (fFor (fLstI (fVar 1)) (bName 5) b_law_told_v9_5) (fRet (fC (.bool true)))))))
def F_law_told_v9 : List R → Pw → FRes := runF 8 2 p_law_told_v9
def b_law_k09_1 : DSt → Flow := fseq (fSet 8 (fOp (lift2 ixO) (fVar 5) (fUser F_law_draw (fCons (fVar 1) (fCons (fCall lenO (pCons (fVar 5) fNil)) fNil))))) (fIfS (fB (fOp (lift2 neO) (fOp (lift2 inO) (fVar 4) (fUser F_lines_of (fCons (fCall listO (pCons (fVar 8) fNil)) fNil))) (fUser F_law_falls (fCons (fVar 4) (fCons (fVar 8) fNil))))) (fRet (fC (.bool false))) fnext)
abbrev o_law_k09_1 : List PyData → DSt → Flow := loopF (bName 7) b_law_k09_1
def b_law_k09_2 : DSt → Flow := fseq (fSet 3 (fUser F_law_names (fCons (fVar 1) (fCons (fOp (lift2 addO) (fC (.int 1)) (fUser F_law_draw (fCons (fVar 1) (fCons (fOp (lift2 ixO) (fLst (fCons (fC (.int 3)) (fCons (fC (.int 4)) (fCons (fC (.int 5)) fNil)))) (fUser F_law_draw (fCons (fVar 1) (fCons (fC (.int 3)) fNil)))) fNil)))) fNil)))) (fseq (fSet 4 (fUser F_law_mixed (fCons (fVar 1) (fCons (fVar 3) fNil)))) (fseq (fSet 5 (fUser F_law_orders (fCons (fVar 3) fNil))) (fseq (fSet 6 (fCall listO (pCons (fVar 4) fNil))) (fseq (fIfS (fOr (fNot (fB (fUser F_law_told_v9 (fCons (fVar 6) (fCons (fVar 5) fNil))))) (fB (fOp (lift2 neO) (fVar 6) (fVar 4)))) (fRet (fC (.bool false))) fnext) (fFor (fRng1 (pCons (fC (.int 6)) fNil)) (bName 7) b_law_k09_1)))))
abbrev o_law_k09_2 : List PyData → DSt → Flow := loopF (bName 2) b_law_k09_2
def p_law_k09 : DSt → Flow := fseq (fFor (fRng1 (pCons (fC (.int 3)) fNil)) (bName 2) b_law_k09_2) (fRet (fC (.bool true)))
def F_law_k09 : List R → Pw → FRes := runF 9 1 p_law_k09
theorem orders_ok {N : List Int} {w : Pw} (h0 : N ≠ []) (hl : N.length ≤ 5) : F_law_orders [.val (.list ((N).map .int))] w = .ok (.val (.list ((ordL N).map llD))) w := by
  -- one order
  have lev3 : ∀ (a : Int) (o : List Int) (acc : List (List Int)) (s1 v5 : Sl), o.length ≤ 5 → acc.length ≤ 1000 → ∃ v5', loopF (bName 5) b_law_orders_1 (rangeD 0 (o.length + 1)) ⟨[.val (.list ((N).map .int)), s1, .val (.int (a)), .own ((acc).map llD), .val (llD o), v5], w⟩ = .next ⟨[.val (.list ((N).map .int)), s1, .val (.int (a)), .own ((acc ++ (List.range (o.length + 1)).map (insA a o)).map llD), .val (llD o), v5'], w⟩ := by
    intro a o acc s1 v5 ho ha
    obtain ⟨s', e, v5', rfl⟩ := loopN (b := bName 5) (p := b_law_orders_1) (f := fun (k : Nat) => PyData.int (k : Int)) (l := List.range (o.length + 1)) (s := ⟨[.val (.list ((N).map .int)), s1, .val (.int (a)), .own ((acc).map llD), .val (llD o), v5], w⟩)
      (fun i s => ∃ v5, s = ⟨[.val (.list ((N).map .int)), s1, .val (.int (a)), .own ((acc ++ ((List.range (o.length + 1)).map (insA a o)).take i).map llD), .val (llD o), v5], w⟩) ⟨v5, by simp⟩ (by
        rintro i x s hi hx ⟨v5, rfl⟩
        obtain ⟨rfl, hi4⟩ := range_at hi
        rw [take_succ_map hi]
        obtain ⟨T, hT⟩ : ∃ T, T = acc ++ ((List.range (o.length + 1)).map (insA a o)).take x := ⟨_, rfl⟩
        have lT : T.length ≤ 1010 := by rw [hT]; simp; omega
        rw [← List.append_assoc, ← hT]
        have c1 : cutD (o.map PyData.int) none (some (x : Int)) = (o.take x).map .int := by
          rw [cutD_map]
          congr 1
          exact cut_to
        have c2 : cutD (o.map PyData.int) (some (x : Int)) none = (o.drop x).map .int := by
          rw [cutD_map]
          congr 1
          exact cut_from
        have h1 : leS ((o.take x).length + 1) := size_le (by simp; omega)
        have h2 : leS ((o.take x).length + 1 + (o.drop x).length) := size_le (by simp; omega)
        have h3 : ltS T.length := size_lt (by omega)
        obtain ⟨t1, ht1⟩ : ∃ t1, t1 = o.take x := ⟨_, rfl⟩
        obtain ⟨t2, ht2⟩ : ∃ t2, t2 = o.drop x := ⟨_, rfl⟩
        rw [← ht1] at c1 h1 h2
        rw [← ht2] at c2 h2
        have em : PyData.list (t1.map PyData.int ++ (PyData.int a :: t2.map PyData.int)) = llD (insA a o x) := by
          unfold insA llD
          rw [← ht1, ← ht2, List.map_append]
          rfl
        have el : llD o = .list (o.map .int) := rfl
        unfold b_law_orders_1
        rw [el]
        simp -implicitDefEqProofs [c1, c2, h1, h2, h3, em])
    have e9 : ((List.range (o.length + 1)).map (insA a o)).take (List.range (o.length + 1)).length = (List.range (o.length + 1)).map (insA a o) := List.take_of_length_le (by simp)
    rw [e9, range_D] at e
    exact ⟨v5', e⟩
  have lev2 : ∀ (a : Int) (E : List (List Int)) (s1 v4 v5 : Sl), E.length ≤ 30 → (∀ o ∈ E, o.length ≤ 5) → ∃ v4' v5', loopF (bName 4) b_law_orders_2 (E.map llD) ⟨[.val (.list ((N).map .int)), s1, .val (.int (a)), .own [], v4, v5], w⟩ = .next ⟨[.val (.list ((N).map .int)), s1, .val (.int (a)), .own ((insS E a).map llD), v4', v5'], w⟩ := by
    intro a E s1 v4 v5 hE ho
    obtain ⟨s', e, v4', v5', _, rfl⟩ := loopN (b := bName 4) (p := b_law_orders_2) (f := llD) (l := E) (s := ⟨[.val (.list ((N).map .int)), s1, .val (.int (a)), .own [], v4, v5], w⟩)
      (fun i s => ∃ v4 v5, (insS (E.take i) a).length ≤ 6 * i ∧ s = ⟨[.val (.list ((N).map .int)), s1, .val (.int (a)), .own ((insS (E.take i) a).map llD), v4, v5], w⟩) ⟨v4, v5, by simp [insS], by simp [insS]⟩ (by
        rintro i o s hi hm ⟨v4, v5, hl2, rfl⟩
        have hi2 := (List.getElem?_eq_some_iff.mp hi).1
        have ho5 := ho o hm
        obtain ⟨v5', e⟩ := lev3 a o (insS (E.take i) a) s1 v5 ho5 (by omega)
        have em : insS (E.take (i + 1)) a = insS (E.take i) a ++ (List.range (o.length + 1)).map (insA a o) := by
          rw [take_succ hi]
          simp [insS]
        have hB : inB ((o.length : Int) + 1) := inB_of (by omega) (by omega)
        have et : ((o.length : Int) + 1).toNat = o.length + 1 := by omega
        have el : llD o = .list (o.map .int) := rfl
        rw [em]
        obtain ⟨T, hT⟩ : ∃ T, T = insS (E.take i) a ++ (List.range (o.length + 1)).map (insA a o) := ⟨_, rfl⟩
        have lT : T.length ≤ 6 * (i + 1) := by rw [hT, List.length_append, List.length_map, List.length_range]; omega
        rw [← hT] at e ⊢
        rw [el] at e ⊢
        unfold b_law_orders_2
        simp -implicitDefEqProofs [hB, et, e]
        exact lT)
    rw [List.take_length] at e
    exact ⟨v4', v5', e⟩
  obtain ⟨s', e, s1, v2, v3, v4, v5, hs1, rfl⟩ := loopN (b := bName 2) (p := b_law_orders_3) (f := .int) (l := N) (s := ⟨[.val (.list ((N).map .int)), .own [.list []], .no, .no, .no, .no], w⟩)
    (fun i s => ∃ s1 v2 v3 v4 v5, (s1 = .val (.list ((ordL (N.take i)).map llD)) ∨ (i = 0 ∧ s1 = .own ((ordL (N.take i)).map llD))) ∧ s = ⟨[.val (.list ((N).map .int)), s1, v2, v3, v4, v5], w⟩) ⟨_, .no, .no, .no, .no, .inr ⟨rfl, rfl⟩, rfl⟩ (by
      rintro i a s hi ha ⟨s1, v2, v3, v4, v5, hs1, rfl⟩
      have hi2 := (List.getElem?_eq_some_iff.mp hi).1
      obtain ⟨E, hE⟩ : ∃ E, E = ordL (N.take i) := ⟨_, rfl⟩
      have lt : (N.take i).length = i := by rw [List.length_take]; omega
      obtain ⟨h1, h2⟩ := ordL_len i (N.take i) lt
      have lE : E.length ≤ 30 := by
        rw [hE, h1]
        have : fact i ≤ fact 4 := fact_le (by omega)
        have : fact 4 = 24 := rfl
        omega
      have en : ordL (N.take (i + 1)) = insS E a := by rw [take_succ hi, ordL_snoc, hE]
      rw [← hE] at h2 hs1
      rw [en]
      obtain ⟨v4', v5', e⟩ := lev2 a E (.val (.list ((E).map llD))) v4 v5 lE fun o ho => by have := h2 o ho; omega
      unfold b_law_orders_3
      rcases hs1 with rfl | ⟨_, rfl⟩
      · simp -implicitDefEqProofs [e]
      · simp -implicitDefEqProofs [e])
  rw [List.take_length] at hs1
  have hs1 : s1 = .val (.list ((ordL N).map llD)) := hs1.resolve_right fun z => h0 (List.length_eq_zero_iff.mp z.1)
  subst hs1
  unfold F_law_orders p_law_orders
  simp only [x_runF]
  simp -implicitDefEqProofs [e]
theorem lines_of_ok {r : List Int} {w : Pw} (h : Rank r) : F_lines_of [.val (.list ((r).map .int))] w = .ok (.new ((grownL r).map llD)) w := by
  unfold F_lines_of p_lines_of
  simp only [x_runF]
  simp -implicitDefEqProofs [must_ranking_ok h, grown_ok (List.length_pos_iff.mp h.2.2.1) h.2.2.2]
/-- those that fall are those by number -/
theorem fall_numbers {L : List Int} (hL : Rank L) : ((ordL L).filter fun o => fallB L o).Perm ((List.range (2 ^ (L.length - 1))).map (rkOf L)) := by
  have hb : ∀ k, (bitsN (L.length - 1) k).length = L.length - 1 := fun k => bitsN_len _ _
  refine (List.perm_ext_iff_of_nodup ((ordL_nodup _ L rfl hL.1).sublist List.filter_sublist) ?_).mpr fun o => ?_
  · rw [List.Nodup, List.pairwise_map]
    refine List.Pairwise.imp_of_mem ?_ List.nodup_range
    intro p q hp hq hne e
    have h1 := List.mem_range.mp hp
    have h2 := List.mem_range.mp hq
    have e := List.reverse_inj.mp e
    have := pick_inj _ _ L hL.1 (by rw [hb, hb]) (by rw [hb]; have := hL.2.2.1; omega) e
    have e1 := val_bits (L.length - 1) p h1
    rw [this, val_bits _ _ h2] at e1
    exact hne e1.symm
  · rw [List.mem_filter, mem_ordL _ L o rfl, fallB_iff, List.mem_map]
    constructor
    · rintro ⟨hp, hv⟩
      obtain ⟨bs, h1, h2⟩ := falls_pick hL.1 hL.2.2.1 hp hv
      have hbl : bs.length = L.length - 1 := by omega
      refine ⟨valA 0 bs, List.mem_range.mpr (by rw [← hbl]; exact valA_lt bs), ?_⟩
      unfold rkOf
      rw [← hbl, bits_val, h2]
    · rintro ⟨k, _, rfl⟩
      exact ⟨rkOf_perm, pick_falls hL.1 _⟩
theorem told9_ok {L N : List Int} {w : Pw} (hL : Rank L) (hl : L.length ≤ 5) (hN : N.Perm L) : F_law_told_v9 [.val (.list ((L).map .int)), .val (.list ((ordL N).map llD))] w = .ok (.val (.bool true)) w := by
  have l0 := hL.2.2.1
  have lN := hN.length_eq
  obtain ⟨h1, h2⟩ := ordL_len N.length N rfl
  have lE : (ordL N).length ≤ 200 := by
    rw [h1]
    have : fact N.length ≤ fact 5 := fact_le (by omega)
    have : fact 5 = 120 := rfl
    omega
  have pm : ∀ o ∈ ordL N, o.Perm L := fun o ho => ((mem_ordL _ N o rfl).mp ho).trans hN
  obtain ⟨D, hD⟩ : ∃ D, D = (ordL N).filter fun o => fallB L o := ⟨_, rfl⟩
  have e1 : l_law_told_v9_2 ⟨[.val (.list ((L).map .int)), .val (.list ((ordL N).map llD)), .no, .no, .no, .no, .no, .no], w⟩ = .ok (.new (D.map llD)) ⟨[.val (.list ((L).map .int)), .val (.list ((ordL N).map llD)), .no, .no, .no, .no, .no, .no], w⟩ := by
    rw [hD]
    refine lc_gen (fun o : List Int => ⟨[.val (.list ((L).map .int)), .val (.list ((ordL N).map llD)), .no, .no, .no, .val (llD o), .no, .no], w⟩) _ llD (f := llD) (l := ordL N) (by simp -implicitDefEqProofs) (by omega) rfl (fun a _ => by rfl) (fun a _ => by rfl) (fun o ho => ?_) (fun o ho _ => ?_)
    · unfold t_law_told_v9_1
      simp -implicitDefEqProofs [llD, law_falls_ok hL (pm o ho)]
    · unfold e_law_told_v9_2
      simp -implicitDefEqProofs [llD]
  obtain ⟨m, hm⟩ : ∃ m, m = 2 ^ (L.length - 1) := ⟨_, rfl⟩
  have m16 : m ≤ 16 := by
    rw [hm]
    have : 2 ^ (L.length - 1) ≤ 2 ^ 4 := Nat.pow_le_pow_right (by decide) (by omega)
    omega
  have pD : D.Perm ((List.range m).map (rkOf L)) := by
    have p1 : (ordL N).Perm (ordL L) := (List.perm_ext_iff_of_nodup (ordL_nodup _ N rfl (hN.nodup_iff.mpr hL.1)) (ordL_nodup _ L rfl hL.1)).mpr fun o => by
      rw [mem_ordL _ N o rfl, mem_ordL _ L o rfl]
      exact ⟨fun h => h.trans hN, fun h => h.trans hN.symm⟩
    rw [hD, hm]
    exact (p1.filter _).trans (fall_numbers hL)
  have lD : (sortLL D).length = m := by
    rw [(sortLL_perm D).length_eq, pD.length_eq]
    simp
  obtain ⟨S, hS⟩ : ∃ S, S = sortLL D := ⟨_, rfl⟩
  rw [← hS] at lD
  have s1 : sortedO [.list (D.map llD)] = some (.new (S.map llD)) := by rw [sortedO_ll, hS]
  obtain ⟨B, hB⟩ : ∃ B, B = (List.range m).map (rkOf L) := ⟨_, rfl⟩
  have s2 : sortedO [.list (B.map llD)] = some (.new (S.map llD)) := by rw [sortedO_ll, hS, hB, sortLL_eq pD.symm]
  have hBm : inB (m : Int) := inB_of (by omega) (by omega)
  have e2 : l_law_told_v9_3 ⟨[.val (.list ((L).map .int)), .val (.list ((ordL N).map llD)), .own ((S).map llD), .val (.int ((m : Nat) : Int)), .no, .no, .no, .no], w⟩ = .ok (.new (B.map llD)) ⟨[.val (.list ((L).map .int)), .val (.list ((ordL N).map llD)), .own ((S).map llD), .val (.int ((m : Nat) : Int)), .no, .no, .no, .no], w⟩ := by
    rw [hB, List.map_map]
    refine lc_all (fun k : Nat => ⟨[.val (.list ((L).map .int)), .val (.list ((ordL N).map llD)), .own ((S).map llD), .val (.int ((m : Nat) : Int)), .no, .no, .val (.int ((k : Nat) : Int)), .no], w⟩) _ (f := fun k : Nat => PyData.int (k : Int)) (l := List.range m) (by simp -implicitDefEqProofs [hBm, range_D]) (by simp; omega) rfl (fun a _ => by rfl) (fun a _ => by rfl) (fun k hk => ?_)
    have hk := List.mem_range.mp hk
    have er : F_ranking_on [.val (.list ((L).map .int)), .val (.int ((k : Nat) : Int))] w = .ok (.new ((rkOf L k).map .int)) w := ranking_on_ok hL (by rw [hm] at hk; exact hk)
    unfold e_law_told_v9_3
    simp -implicitDefEqProofs [er, llD]
  have e3 : l_law_told_v9_4 ⟨[.val (.list ((L).map .int)), .val (.list ((ordL N).map llD)), .own ((S).map llD), .val (.int ((m : Nat) : Int)), .own ((B).map llD), .no, .no, .no], w⟩ = .ok (.new ((List.range m).map fun k : Nat => PyData.int ((k : Nat) : Int))) ⟨[.val (.list ((L).map .int)), .val (.list ((ordL N).map llD)), .own ((S).map llD), .val (.int ((m : Nat) : Int)), .val (.list ((B).map llD)), .no, .no, .no], w⟩ := by
    have eBm : B.map llD = (List.range m).map fun k => llD (rkOf L k) := by rw [hB, List.map_map]; rfl
    refine lc_all (fun k : Nat => ⟨[.val (.list ((L).map .int)), .val (.list ((ordL N).map llD)), .own ((S).map llD), .val (.int ((m : Nat) : Int)), .val (.list ((B).map llD)), .no, .no, .val (llD (rkOf L k))], w⟩) _ (f := fun k : Nat => llD (rkOf L k)) (l := List.range m) (by simp -implicitDefEqProofs [← eBm]) (by simp; omega) rfl (fun a _ => by rfl) (fun a _ => by rfl) (fun k hk => ?_)
    have hk := List.mem_range.mp hk
    have hbl : (bitsN (L.length - 1) k).length = L.length - 1 := bitsN_len _ _
    have er : F_number_on [.val (.list ((L).map .int)), .val (.list ((rkOf L k).map .int))] w = .ok (.val (.int k)) w := by
      have := number_on_ok (w := w) (r := rkOf L k) (bs := bitsN (L.length - 1) k) hL (by rw [hbl]; omega) rfl
      rwa [val_bits _ _ (by rw [hm] at hk; exact hk)] at this
    have el : llD (rkOf L k) = .list ((rkOf L k).map .int) := rfl
    unfold e_law_told_v9_4
    rw [el]
    simp -implicitDefEqProofs [er]
  have q1 : neO (.list (S.map llD)) (.list (S.map llD)) = some (.val (.bool false)) := by rw [x_neLL]; simp
  have q2 : neO (.list (rangeD 0 m)) (.list (rangeD 0 m)) = some (.val (.bool false)) := by
    rw [neO_calm (p := True) (by simp [rangeD]) (by simp [rangeD]) (by simp)]
    · simp
    · have : rangeD 0 m = ((List.range m).map fun k : Nat => (k : Int)).map PyData.int := by simp [rangeD]
      rw [this, dep_list, dep_ints]
      decide
  rw [range_D] at e3
  obtain ⟨s', e4, u5, rfl⟩ := loopN (b := bName 5) (p := b_law_told_v9_5) (f := llD) (l := ordL N) (s := ⟨[.val (.list ((L).map .int)), .val (.list ((ordL N).map llD)), .own ((S).map llD), .val (.int ((m : Nat) : Int)), .val (.list ((B).map llD)), .no, .no, .no], w⟩)
    (fun i s => ∃ u5, s = ⟨[.val (.list ((L).map .int)), .val (.list ((ordL N).map llD)), .own ((S).map llD), .val (.int ((m : Nat) : Int)), .val (.list ((B).map llD)), u5, .no, .no], w⟩) ⟨_, rfl⟩ (by
      rintro i o s hi ho ⟨u5, rfl⟩
      have ein : inO (.list (o.map .int)) (.list (S.map llD)) = some (.val (.bool (fallB L o))) := by
        have := x_inLL (x := o) (a := S)
        have e : decide (o ∈ S) = fallB L o := by
          rw [Bool.eq_iff_iff, decide_eq_true_eq, hS, mem_sortLL, hD, List.mem_filter]
          exact ⟨fun h => h.2, fun h => ⟨ho, h⟩⟩
        rw [e] at this
        exact this
      have el : llD o = .list (o.map .int) := rfl
      unfold b_law_told_v9_5
      rw [el]
      simp -implicitDefEqProofs [falls_ok hL (pm o ho), ein])
  have hrg : rgS 0 (m : Int) := rgS_of (by omega) (by omega) (by omega) (by omega)
  unfold F_law_told_v9 p_law_told_v9
  simp only [x_runF]
  simp -implicitDefEqProofs [e1, s1, lD, e2, s2, q1, e3, q2, e4, hrg]
theorem law_k09_ok : LawOk 9 p_law_k09 := by
  intro a pa ca cells ne hc hl
  have w0 : WP pa (some (pa, ca, cells, 0)) 0 := ⟨ca, cells, 0, rfl, hc, by decide, by decide⟩
  obtain ⟨s', e, v2, v3, v4, v5, v6, v7, v8, w', hw, rfl⟩ := loopN (b := bName 2) (p := b_law_k09_2) (f := fun (k : Nat) => PyData.int (k : Int)) (l := List.range 3) (s := ⟨[.raw (.ref a), .raw (.ref pa), .no, .no, .no, .no, .no, .no, .no], some (pa, ca, cells, 0)⟩)
    (fun i s => ∃ (v2 v3 v4 v5 v6 v7 v8 : Sl) (w : Pw), WP pa w (1000000 * i) ∧ s = ⟨[.raw (.ref a), .raw (.ref pa), v2, v3, v4, v5, v6, v7, v8], w⟩) ⟨_, _, _, _, _, _, _, _, by simpa using w0, rfl⟩ (by
      rintro i x s hi hx ⟨v2, v3, v4, v5, v6, v7, v8, w, hw, rfl⟩
      obtain ⟨rfl, hi4⟩ := range_at hi
      obtain ⟨r1, w1, e1, a1, b1, q1⟩ := draw_ok (n := 3) hw (by omega) (by omega) (by omega)
      obtain ⟨c, ec, c0, c1⟩ : ∃ c : Int, atI [PyData.int 3, .int 4, .int 5] r1 = some (.int c) ∧ 3 ≤ c ∧ c ≤ 5 := by
        have : r1 = 0 ∨ r1 = 1 ∨ r1 = 2 := by omega
        rcases this with q | q | q <;> rw [q]
        · exact ⟨3, by simp, by omega, by omega⟩
        · exact ⟨4, by simp, by omega, by omega⟩
        · exact ⟨5, by simp, by omega, by omega⟩
      obtain ⟨r2, w2, e2, a2, b2, q2⟩ := draw_ok (n := c) q1 (by omega) (by omega) (by omega)
      obtain ⟨n, hn⟩ : ∃ n : Nat, 1 + r2 = n := ⟨(1 + r2).toNat, by omega⟩
      obtain ⟨N, w3, e3, lN, dN, pN, q3⟩ := names_ok (n := n) q2 (by omega) (by omega)
      obtain ⟨L, w4, e4, p4, q4⟩ := mixedI_ok (ns := N) q3 (by omega) (by omega)
      have rN : Rank N := ⟨dN, pN, by omega, by omega⟩
      have rL : Rank L := rN.perm p4
      have l4 := p4.length_eq
      have t1 := orders_ok (w := w4) (N := N) (List.length_pos_iff.mp rN.2.2.1) (by omega)
      have t2 := told9_ok (w := w4) rL (by omega) p4.symm
      obtain ⟨E, hE⟩ : ∃ E, E = ordL N := ⟨_, rfl⟩
      have pE : ∀ o ∈ E, o.Perm L := fun o ho => ((mem_ordL _ N o rfl).mp (by rw [← hE]; exact ho)).trans p4.symm
      obtain ⟨h1, h2⟩ := ordL_len N.length N rfl
      rw [← hE] at t1 t2 h1
      have E0 : 0 < E.length := by
        rw [h1]
        have : fact 0 ≤ fact N.length := fact_le (by omega)
        exact this
      have E1 : E.length ≤ 200 := by
        rw [h1]
        have : fact N.length ≤ fact 5 := fact_le (by omega)
        have : fact 5 = 120 := rfl
        omega
      obtain ⟨s5, e5, u4, u7, u8, w5, q5, hu4, rfl⟩ := loopN (b := bName 7) (p := b_law_k09_1) (f := fun (k : Nat) => PyData.int (k : Int)) (l := List.range 6) (s := ⟨[.raw (.ref a), .raw (.ref pa), .val (.int (x)), .val (.list ((N).map .int)), .own (L.map .int), .val (.list ((E).map llD)), .val (.list ((L).map .int)), v7, v8], w4⟩)
        (fun i s => ∃ (u4 u7 u8 : Sl) (w : Pw), WP pa w (1000000 * x + 100000 + i) ∧ (u4 = .own (L.map .int) ∨ u4 = .val (.list ((L).map .int))) ∧ s = ⟨[.raw (.ref a), .raw (.ref pa), .val (.int (x)), .val (.list ((N).map .int)), u4, .val (.list ((E).map llD)), .val (.list ((L).map .int)), u7, u8], w⟩) ⟨_, _, _, _, q4.mono (by omega), .inl rfl, rfl⟩ (by
          rintro j y s hj hy ⟨u4, u7, u8, w5, q5, hu4, rfl⟩
          obtain ⟨rfl, hj4⟩ := range_at hj
          obtain ⟨r6, w6, e6, a6, b6, q6⟩ := draw_ok (n := E.length) q5 (by omega) (by omega) (by omega)
          obtain ⟨o, eo, mo⟩ := atI_some (xs := E) a6 b6
          have eo' : atI (E.map llD) r6 = some (.list (o.map .int)) := by rw [atI_mapF, eo]; rfl
          have po := pE o mo
          have ro : Rank o := rL.perm po
          have ein : inO (.list (L.map .int)) (.list ((grownL o).map llD)) = some (.val (.bool (fallB L o))) := by
            have := x_inLL (x := L) (a := grownL o)
            have e : decide (L ∈ grownL o) = fallB L o := by
              rw [Bool.eq_iff_iff, decide_eq_true_eq, fallB_iff, mem_grown ro.1 (List.length_pos_iff.mp ro.2.2.1)]
              exact ⟨fun h => h.2, fun h => ⟨po, h⟩⟩
            rw [e] at this
            exact this
          have fin : WP pa w6 (1000000 * x + 100000 + (y + 1)) := q6.mono (by omega)
          unfold b_law_k09_1
          rcases hu4 with rfl | rfl
          · simp -implicitDefEqProofs [e6, eo', lines_of_ok ro, ein, law_falls_ok rL po]
            exact ⟨_, _, _, _, fin, .inr rfl, ⟨rfl, rfl, rfl⟩, rfl⟩
          · simp -implicitDefEqProofs [e6, eo', lines_of_ok ro, ein, law_falls_ok rL po]
            exact ⟨_, _, _, _, fin, .inr rfl, ⟨rfl, rfl, rfl⟩, rfl⟩)
      rw [range_D] at e5
      have fin : WP pa w5 (1000000 * (x + 1)) := q5.mono (by rw [List.length_range]; omega)
      unfold b_law_k09_2
      simp -implicitDefEqProofs [e1, ec, e2, hn, e3, e4, t1, t2, e5]
      exact fin)
  unfold p_law_k09
  simp -implicitDefEqProofs [rangeD, e]

end DL

noncomputable section
namespace DL
open PySem L2
def p_grownD : DSt → Flow := fGrow 1 (fSlice (fVar 0) fNoPart (fPart (fC (.int 1)))) (fSlice (fVar 0) (fPart (fC (.int 1))) fNoPart) (bName 2) b_grown_3 (fRet (fCall sortedO (pCons (fVar 1) fNil)))
def F_grownD : List R → Pw → FRes := runF 4 1 p_grownD
def p_lines_ofD : DSt → Flow := fseqn (fDrop (fUser F_must_be_ranking (fCons (fVar 0) fNil))) (fRet (fUser F_grownD (fCons (fVar 0) fNil)))
def F_lines_ofD : List R → Pw → FRes := runF 1 1 p_lines_ofD
/-! grown, lines_of: new all through -/
theorem grow_step {u : Sl} {w : Pw} (hu : ∀ ds, u ≠ .own ds) : ∀ (F : List (List Int)) (a : Int), F.length ≤ 600 → (∀ x ∈ F, x.length ≤ 10) → b_grown_3 ⟨[u, .own (F.map llD), .val (.int (a)), .no], w⟩ = .next ⟨[u, .own ((grS F a).map llD), .val (.int (a)), .no], w⟩ := by
  intro F a hF hx
  have e1 : l_grown_1 ⟨[u, .own (F.map llD), .val (.int (a)), .no], w⟩ = .ok (.new (F.map fun l => llD (a :: l))) ⟨[u, .val (.list (F.map llD)), .val (.int (a)), .no], w⟩ := by
    refine lc_all (fun x : List Int => ⟨[u, .val (.list (F.map llD)), .val (.int (a)), .val (llD x)], w⟩) _ (f := llD) (l := F) (by simp -implicitDefEqProofs) (by omega) rfl (fun a _ => by rfl) (fun a _ => by rfl) (fun x hm => ?_)
    have := hx x hm
    have hs : leS (1 + x.length) := size_le (by omega)
    unfold e_grown_1
    simp -implicitDefEqProofs [llD, hs]
  have e2 : l_grown_2 ⟨[u, .val (.list (F.map llD)), .val (.int (a)), .no], w⟩ = .ok (.new (F.map fun l => llD (l ++ [a]))) ⟨[u, .val (.list (F.map llD)), .val (.int (a)), .no], w⟩ := by
    refine lc_all (fun x : List Int => ⟨[u, .val (.list (F.map llD)), .val (.int (a)), .val (llD x)], w⟩) _ (f := llD) (l := F) (by simp -implicitDefEqProofs) (by omega) rfl (fun a _ => by rfl) (fun a _ => by rfl) (fun x hm => ?_)
    have := hx x hm
    have hs : leS (x.length + 1) := size_le (by omega)
    unfold e_grown_2
    simp -implicitDefEqProofs [llD, hs]
  have hs : leS (F.length + F.length) := size_le (by omega)
  have em : (F.map fun l => llD (a :: l)) ++ (F.map fun l => llD (l ++ [a])) = (grS F a).map llD := by
    unfold grS
    rw [List.map_append, List.map_map, List.map_map]
    rfl
  unfold b_grown_3
  simp -implicitDefEqProofs [e1, e2, hs, em]
theorem grownD_ok {r : List Int} {w : Pw} (h0 : r ≠ []) (hl : r.length ≤ 10) : F_grownD [.val (.list ((r).map .int))] w = .ok (.new ((grownL r).map llD)) w := by
  have hr0 : 0 < r.length := List.length_pos_iff.mpr h0
  obtain ⟨s', e, v2, ⟨hx, rfl⟩⟩ := loopN (b := bName 2) (p := b_grown_3) (f := .int) (l := r.drop 1) (s := ⟨[.no, .own ([r.take 1].map llD), .no, .no], w⟩)
    (fun i s => ∃ v2, (∀ x ∈ ((r.drop 1).take i).foldl grS [r.take 1], x.length ≤ i + 1) ∧ s = ⟨[.no, .own ((((r.drop 1).take i).foldl grS [r.take 1]).map llD), v2, .no], w⟩) ⟨.no, by simp; omega, rfl⟩ (by
      rintro i a s hi ha ⟨v2, hx, rfl⟩
      have hi2 := (List.getElem?_eq_some_iff.mp hi).1
      simp at hi2
      rw [take_succ hi, List.foldl_append]
      obtain ⟨F, hF⟩ : ∃ F, F = ((r.drop 1).take i).foldl grS [r.take 1] := ⟨_, rfl⟩
      have lF : F.length ≤ 600 := by
        rw [hF, gr_len]
        have : 2 ^ ((r.drop 1).take i).length ≤ 2 ^ 9 := Nat.pow_le_pow_right (by decide) (by simp; omega)
        simp only [List.length_cons, List.length_nil]
        omega
      rw [← hF] at hx ⊢
      have := grow_step (u := .no) (w := w) (by intro ds h; cases h) F a lF fun x hm => by have := hx x hm; omega
      refine ⟨_, by unfold bod; simp -implicitDefEqProofs [this], .val (.int a), ?_, rfl⟩
      intro x hm
      show x.length ≤ i + 1 + 1
      have h2 : x ∈ F.map (fun l => a :: l) ++ F.map fun l => l ++ [a] := hm
      rw [List.mem_append, List.mem_map, List.mem_map] at h2
      rcases h2 with ⟨m, h3, rfl⟩ | ⟨m, h3, rfl⟩
      · have := hx m h3; simp; omega
      · have := hx m h3; simp; omega)
  rw [List.take_length] at e
  have c1 : cutD (r.map PyData.int) none (some 1) = (r.take 1).map .int := by
    rw [cutD_map]
    congr 1
    exact cut_to (k := 1)
  have c2 : cutD (r.map PyData.int) (some 1) none = (r.drop 1).map .int := by
    rw [cutD_map]
    congr 1
    exact cut_from (k := 1)
  obtain ⟨T, hT⟩ : ∃ T, T = r.take 1 := ⟨_, rfl⟩
  obtain ⟨D, hD⟩ : ∃ D, D = r.drop 1 := ⟨_, rfl⟩
  rw [← hT] at c1 e
  rw [← hD] at c2 e
  have es : sortedO [.list ((D.foldl grS [T]).map llD)] = some (.new ((grownL r).map llD)) := by
    rw [sortedO_ll, hD, hT]
    rfl
  have eT : [T].map llD = [PyData.list (T.map .int)] := rfl
  rw [eT] at e
  unfold F_grownD p_grownD
  simp only [x_runF]
  have hg := grow_eq (i := 1) (f1 := fSlice (fVar 0) fNoPart (fPart (fC (.int 1)))) (f2 := fSlice (fVar 0) (fPart (fC (.int 1))) fNoPart) (bd := bName 2) (p := b_grown_3) (q := fRet (fCall sortedO (pCons (fVar 1) fNil))) (s := ⟨[.val (.list ((r).map .int)), .no, .no, .no], w⟩) (d1 := T.map .int) (d2 := D.map .int) (s2 := ⟨[.val (.list ((r).map .int)), .no, .no, .no], w⟩) (s4 := ⟨[.no, .own ((D.foldl grS [T]).map llD), v2, .no], w⟩) (ds := (grownL r).map llD)
    (by simp -implicitDefEqProofs [c1]) (by simp) (by simp) (by simp -implicitDefEqProofs [c2]) (by simp) e (by simp -implicitDefEqProofs [es])
  simp -implicitDefEqProofs [hg]
theorem lines_ofD_ok {r : List Int} {w : Pw} (hr : Rank r) : F_lines_ofD [.val (.list ((r).map .int))] w = .ok (.new ((grownL r).map llD)) w := by
  unfold F_lines_ofD p_lines_ofD
  simp only [x_runF]
  simp -implicitDefEqProofs [must_ranking_ok hr, grownD_ok (List.length_pos_iff.mp hr.2.2.1) hr.2.2.2]

end DL

noncomputable section
namespace DL
open PySem L2

/-! each line once; folks with the same rankings -/
theorem nodup_mapI {α β : Type} {f : α → β} {l : List α} (hf : ∀ x ∈ l, ∀ y ∈ l, f x = f y → x = y) (hn : l.Nodup) : (l.map f).Nodup := by
  rw [List.Nodup, List.pairwise_map]
  exact List.Pairwise.imp_of_mem (fun hx hy hne e => hne (hf _ hx _ hy e)) hn
theorem grS_nodup {F : List (List Int)} {a : Int} (hn : F.Nodup) (h : ∀ l ∈ F, l ≠ [] ∧ a ∉ l) : (grS F a).Nodup := by
  unfold grS
  rw [List.nodup_append]
  refine ⟨nodup_mapI (fun x _ y _ e => (List.cons.inj e).2) hn, nodup_mapI (fun x _ y _ e => List.append_cancel_right e) hn, ?_⟩
  intro x hx y hy e
  obtain ⟨l, hl, rfl⟩ := List.mem_map.mp hx
  obtain ⟨m, hm, rfl⟩ := List.mem_map.mp hy
  obtain ⟨m0, ma⟩ := h m hm
  obtain ⟨c, m', rfl⟩ := List.exists_cons_of_ne_nil m0
  injection e with e _
  exact ma (e ▸ List.mem_cons_self)
theorem gr_nodup {x : Int} : ∀ (n : Nat) (l : List Int), l.length = n → (x :: l).Nodup → (l.foldl grS [[x]]).Nodup ∧ ∀ m ∈ l.foldl grS [[x]], m.Perm (x :: l)
  | 0, l, h, _ => by
    rw [List.length_eq_zero_iff.mp h]
    simp
  | n + 1, l, h, hn => by
    obtain ⟨K, a, rfl⟩ := (snoc_of l).resolve_left (by rintro rfl; simp at h)
    have hn2 : (x :: K).Nodup := hn.sublist (List.Sublist.cons_cons x (List.sublist_append_left K [a]))
    obtain ⟨h1, h2⟩ := gr_nodup n K (by simpa using h) hn2
    have hp : (x :: (K ++ [a])).Perm (a :: x :: K) := by
      have : x :: (K ++ [a]) = (x :: K) ++ [a] := rfl
      rw [this]
      exact List.perm_append_comm
    have ha : a ∉ x :: K := (List.nodup_cons.mp (hp.nodup_iff.mp hn)).1
    rw [List.foldl_append]
    show (grS (K.foldl grS [[x]]) a).Nodup ∧ ∀ m ∈ grS (K.foldl grS [[x]]) a, _
    refine ⟨grS_nodup h1 fun l hl => ⟨?_, fun z => ha ((h2 l hl).mem_iff.mp z)⟩, ?_⟩
    · rintro rfl
      have := (h2 _ hl).length_eq
      simp at this
    · intro m hm
      unfold grS at hm
      rw [List.mem_append, List.mem_map, List.mem_map] at hm
      rcases hm with ⟨k, hk, rfl⟩ | ⟨k, hk, rfl⟩
      · exact ((h2 k hk).cons a).trans hp.symm
      · exact (List.perm_append_comm.trans ((h2 k hk).cons a)).trans hp.symm
theorem grown_nodup {r : List Int} (hr : r.Nodup) (h0 : r ≠ []) : (grownL r).Nodup := by
  obtain ⟨x, l, rfl⟩ := List.exists_cons_of_ne_nil h0
  unfold grownL
  exact (sortLL_perm _).nodup_iff.mpr (gr_nodup l.length l rfl hr).1
theorem linesF_eq {f g : List (List Int)} (hf : Folk f) (hg : Folk g) (h : ∀ r, r ∈ f ↔ r ∈ g) : linesF f = linesF g := by
  have nd : ∀ f, Folk f → (linesF f).Nodup := fun f hf => by
    have rk := (hf.2.2 _ (head_mem hf.1)).1
    exact (grown_nodup rk.1 (List.length_pos_iff.mp rk.2.2.1)).sublist List.filter_sublist
  have srt : ∀ f, (linesF f).Pairwise fun a b => leLL a b = true := fun f => (sortLL_pair _).sublist List.filter_sublist
  refine pair_eq ((List.perm_ext_iff_of_nodup (nd f hf) (nd g hg)).mpr fun ℓ => ?_) (srt f) (srt g)
  rw [mem_linesF hf, mem_linesF hg]
  exact ⟨fun k r hr => k r ((h r).mpr hr), fun k r hr => k r ((h r).mp hr)⟩
theorem Folk.sub {f g : List (List Int)} (hf : Folk f) (h0 : 0 < g.length) (hl : g.length ≤ 20) (h : ∀ r ∈ g, r ∈ f) : Folk g := ⟨h0, hl, fun r hr => ⟨(hf.2.2 r (h r hr)).1, fun q hq => (hf.2.2 r (h r hr)).2 q (h q hq)⟩⟩
theorem Folk.add {f : List (List Int)} {r : List Int} (hf : Folk f) (hl : f.length < 20) (h : ∀ q ∈ f, r.Perm q) : Folk (f ++ [r]) := by
  refine ⟨by simp, by simp; omega, fun q hq => ?_⟩
  have h0 := head_mem hf.1
  have base : ∀ q ∈ f ++ [r], q.Perm (f.headD []) := fun q hq => by
    rcases List.mem_append.mp hq with h1 | h1
    · exact (hf.2.2 _ h0).2 q h1
    · rw [List.mem_singleton.mp h1]
      exact h _ h0
  exact ⟨(hf.2.2 _ h0).1.perm (base q hq), fun p hp => (base p hp).trans (base q hq).symm⟩
theorem linesF_snoc {f : List (List Int)} {r : List Int} (hf : Folk f) : linesF (f ++ [r]) = (linesF f).filter fun ℓ => fallB ℓ r := by
  unfold linesF
  have e : (f ++ [r]).headD [] = f.headD [] := by
    cases f with
    | nil => exact absurd hf.1 (by simp)
    | cons a f => rfl
  rw [e, List.filter_filter]
  refine List.filter_congr fun ℓ _ => ?_
  rw [List.all_append]
  simp [Bool.and_comm]
/-- falls is to be among the lines -/
theorem fall_mem {r ℓ : List Int} (hr : Rank r) (hp : r.Perm ℓ) : fallB ℓ r = decide (ℓ ∈ grownL r) := by
  rw [Bool.eq_iff_iff, fallB_iff, decide_eq_true_eq, mem_grown hr.1 (List.length_pos_iff.mp hr.2.2.1)]
  exact ⟨fun h => ⟨hp, h⟩, fun h => h.2⟩
theorem lines_len {f : List (List Int)} (hf : Folk f) : (linesF f).length ≤ 512 := by
  have rk := (hf.2.2 _ (head_mem hf.1)).1
  refine Nat.le_trans (List.length_filter_le _ _) ?_
  rw [grown_len]
  have : 2 ^ ((f.headD []).length - 1) ≤ 2 ^ 9 := Nat.pow_le_pow_right (by decide) (by have := rk.2.2.2; omega)
  omega
theorem x_notInLL {x : List Int} {a : List (List Int)} : notInO (llD x) (.list (a.map llD)) = some (.val (.bool (decide (¬ x ∈ a)))) := by
  have h := x_inLL (x := x) (a := a)
  unfold inO at h
  unfold notInO
  simp only [items] at h ⊢
  split at h
  · rename_i hc
    rw [if_pos hc]
    injection h with h
    injection h with h
    injection h with h
    rw [h]
    simp
  · cases h

end DL

noncomputable section
namespace DL
open PySem L2
def p_lines_forD : DSt → Flow := fRet (fFilt (fUser F_grownD (fCons (fOp (lift2 ixO) (fVar 0) (fC (.int 0))) fNil)) 1 (t_lines_for_2) [1])
def F_lines_forD : List R → Pw → FRes := runF 3 1 p_lines_forD
def p_all_linesD : DSt → Flow := fseqn (fDrop (fUser F_must_be_folk (fCons (fVar 0) fNil))) (fRet (fUser F_lines_forD (fCons (fVar 0) fNil)))
def F_all_linesD : List R → Pw → FRes := runF 1 1 p_all_linesD
/-! lines_for, all_lines: new all through -/
theorem lines_forD_ok {f : List (List Int)} {w : Pw} (h : Folk f) : F_lines_forD [.val (.list ((f).map llD))] w = .ok (.new ((linesF f).map llD)) w := by
  obtain ⟨h0, h1, h2⟩ := h
  have hm := head_mem h0
  obtain ⟨rk, hp⟩ := h2 _ hm
  obtain ⟨a, ea⟩ : ∃ a, a = f.headD [] := ⟨_, rfl⟩
  rw [← ea] at hm rk hp
  have e0' : f[0]? = some a := by
    cases f with
    | nil => simp at h0
    | cons b f => rw [ea]; rfl
  have a0 : a ≠ [] := List.length_pos_iff.mp rk.2.2.1
  have inner : ∀ ℓ ∈ grownL a, l_lines_for_1 ⟨[.val (.list ((f).map llD)), .val (llD ℓ), .no], w⟩ = .ok (.new (f.map fun r => .bool (fallB ℓ r))) ⟨[.val (.list ((f).map llD)), .val (llD ℓ), .no], w⟩ := by
    intro ℓ hℓ
    have pℓ := ((mem_grown rk.1 a0).mp hℓ).1
    refine lc_all (fun x : List Int => ⟨[.val (.list ((f).map llD)), .val (llD ℓ), .val (llD x)], w⟩) _ (f := llD) (l := f) (by simp -implicitDefEqProofs) (by omega) rfl (fun a _ => by rfl) (fun a _ => by rfl) (fun x hx => ?_)
    unfold e_lines_for_1
    simp -implicitDefEqProofs [llD, does_fall_ok (rk.perm pℓ.symm) ((hp x hx).trans pℓ)]
  have e1 : fFilt (fUser F_grownD (fCons (fOp (lift2 ixO) (fVar 0) (fC (.int 0))) fNil)) 1 t_lines_for_2 [1] ⟨[.val (.list ((f).map llD)), .no, .no], w⟩ = .ok (.new ((linesF f).map llD)) ⟨[.val (.list ((f).map llD)), .no, .no], w⟩ := by
    unfold linesF
    rw [← ea]
    refine filt_all (fun x : List Int => ⟨[.val (.list ((f).map llD)), .val (llD x), .no], w⟩) _ (f := llD) (l := grownL a) ?_ ?_ rfl (fun a _ => by rfl) (fun a _ => by rfl) (fun x hx => ?_) (fun x hx => by rfl)
    · simp -implicitDefEqProofs [e0', llD, grownD_ok a0 rk.2.2.2]
    · rw [grown_len]
      have : 2 ^ (a.length - 1) ≤ 2 ^ 9 := Nat.pow_le_pow_right (by decide) (by have := rk.2.2.2; omega)
      omega
    · have eb := boolsD_map' (f := fun r => fallB x r) (l := f)
      have := inner x hx
      unfold t_lines_for_2
      simp -implicitDefEqProofs [this, eb]
      first | rfl | (congr 1; rw [Bool.eq_iff_iff]; simp) | skip
  unfold F_lines_forD p_lines_forD
  simp only [x_runF]
  simp -implicitDefEqProofs [e1]
theorem all_linesD_ok {f : List (List Int)} {w : Pw} (h : Folk f) : F_all_linesD [.val (.list ((f).map llD))] w = .ok (.new ((linesF f).map llD)) w := by
  unfold F_all_linesD p_all_linesD
  simp only [x_runF]
  simp -implicitDefEqProofs [must_folk_ok h, lines_forD_ok h]

end DL

noncomputable section
namespace DL
open PySem L2

/-- .. none too great -/
def Names (ns : List Int) : Prop := ns.Nodup ∧ ∀ x ∈ ns, 0 ≤ x ∧ x < 100000000000000000000000000000000000
theorem Names.perm {ns ms : List Int} (h : Names ns) (p : ms.Perm ns) : Names ms := ⟨p.nodup_iff.mpr h.1, fun x hx => h.2 x (p.mem_iff.mp hx)⟩
theorem Names.small {ns : List Int} (h : Names ns) : smallA (ns.map .int) = true := smallA_ints fun x hx => by
  have := h.2 x hx
  have e : (100000000000000000000000000000000000 : Nat) ≤ 10 ^ 90 := by decide +kernel
  have : x.natAbs < 100000000000000000000000000000000000 := by omega
  exact Nat.lt_of_lt_of_le this e
theorem names_ok2 {pa : Addr} {w : Pw} {m : Int} {n : Nat} (h : WP pa w m) (hm : m < 2 ^ 59) (hn : n ≤ 1000) : ∃ (ns : List Int) (w' : Pw), F_law_names [.raw (.ref pa), .val (.int n)] w = .ok (.new (ns.map .int)) w' ∧ ns.length = n ∧ Names ns ∧ WP pa w' (m + 5000) := by
  obtain ⟨s', e, ns, last, w', v1, v2, rfl, h1, h2, h3, h4, h5, h6⟩ := loopF_map (b := bName 4) (p := b_law_names_1) (f := fun (k : Nat) => PyData.int (0 + (k : Int))) (l := List.range n) (s := ⟨[.raw (.ref pa), .val (.int n), .own [], .val (.int (-1)), .no, .no], w⟩)
    (fun i s => ∃ (ns : List Int) (last : Int) (w' : Pw) (v1 v2 : Sl), s = ⟨[.raw (.ref pa), .val (.int n), .own (ns.map .int), .val (.int last), v1, v2], w'⟩ ∧ ns.length = i ∧ ns.Nodup ∧ (∀ x ∈ ns, 0 ≤ x ∧ x ≤ last) ∧ (-1 ≤ last ∧ last ≤ 20000000000000000000000000000 * i) ∧ (i : Int) ≤ n ∧ WP pa w' (m + 3 * i))
    ⟨[], -1, w, .no, .no, rfl, rfl, by simp, by simp, by omega, by omega, by simpa using h⟩ (by
      rintro i a s hi ⟨ns, last, w', v1, v2, rfl, h1, h2, h3, h4, h5, h6⟩
      have hin : i < n := by have := (List.getElem?_eq_some_iff.mp hi).1; simpa using this
      have ha : a = i := by simp [hin] at hi; exact hi.symm
      subst ha
      obtain ⟨r1, w1, e1, r10, r11, q1⟩ := draw_ok (n := 3) h6 (by omega) (by omega) (by omega)
      obtain ⟨r2, w2, e2, r20, r21, q2⟩ := draw_ok (n := 10000000000000000000000000000) q1 (by omega) (by omega) (by omega)
      obtain ⟨r3, w3, e3, r30, r31, q3⟩ := draw_ok (n := 6) q2 (by omega) (by omega) (by omega)
      have hlen : ltS ns.length := size_lt (by omega)
      obtain ⟨x, ex, hx, hx2⟩ : ∃ x : Int, atI [PyData.int 1, .int (1 + r1), .int (1 + r2)] (r3 / 2) = some (.int x) ∧ 1 ≤ x ∧ x ≤ 20000000000000000000000000000 := by
        have : r3 / 2 = 0 ∨ r3 / 2 = 1 ∨ r3 / 2 = 2 := by omega
        rcases this with q | q | q <;> rw [q] <;> simp <;> omega
      unfold b_law_names_1
      refine ⟨_, _, by simp -implicitDefEqProofs; rfl, by simp -implicitDefEqProofs [e1, e2, e3, ex, hlen]; rfl, ns ++ [last + x], last + x, w3, _, _, by simp -implicitDefEqProofs; exact ⟨rfl, rfl⟩, ?_, ?_, ?_, ?_, ?_, ?_⟩
      · simp [h1]
      · rw [List.nodup_append]
        refine ⟨h2, by simp, ?_⟩
        intro a ha b hb
        simp at hb
        have := h3 a ha
        omega
      · intro y hy
        simp at hy
        rcases hy with hy | hy
        · have := h3 y hy; omega
        · omega
      · omega
      · omega
      · exact q3.mono (by omega))
  have hB : inB (n : Int) := inB_of (by omega) (by omega)
  simp at h1
  refine ⟨ns, w', ?_, h1, ⟨h2, fun x hx => ⟨(h3 x hx).1, ?_⟩⟩, h6.mono (by simp; omega)⟩
  · unfold F_law_names p_law_names
    simp only [x_runF]
    have e' : loopF (bName 4) b_law_names_1 (rangeD 0 n) ⟨[.raw (.ref pa), .val (.int n), .own [], .val (.int (-1)), .no, .no], w⟩ = _ := e
    simp -implicitDefEqProofs [e', hB]
  · have := (h3 x hx).2
    have h4 := h4.2
    simp at h4
    omega
/-- a ranking's names: what the laws draw -/
def RankN (ns : List Int) : Prop := Names ns ∧ 0 < ns.length ∧ ns.length ≤ 10

end DL

noncomputable section
namespace DL
open PySem L2
def e_law_lines_1 : M R := fOp (lift2 addO) (fLst (fCons (fVar 2) fNil)) (fVar 3)
abbrev l_law_lines_1 : M R := fLc (fLstI (fVar 1)) (bName 3) fYes (e_law_lines_1) [3]
def e_law_lines_2 : M R := fOp (lift2 addO) (fVar 3) (fLst (fCons (fVar 2) fNil))
abbrev l_law_lines_2 : M R := fLc (fLstI (fVar 1)) (bName 3) fYes (e_law_lines_2) [3]
def b_law_lines_3 : DSt → Flow := fSet 1 (fOp (lift2 addO) (fLc (fLstI (fVar 1)) (bName 3) fYes (e_law_lines_1) [3]) (fLc (fLstI (fVar 1)) (bName 3) fYes (e_law_lines_2) [3]))
abbrev o_law_lines_3 : List PyData → DSt → Flow := loopF (bName 2) b_law_lines_3
def p_law_lines : DSt → Flow := fseq (fSet 1 (fLst (fCons (fSlice (fVar 0) fNoPart (fPart (fC (.int 1)))) fNil))) (fseq (fFor (fLstI (fSlice (fVar 0) (fPart (fC (.int 1))) fNoPart)) (bName 2) b_law_lines_3) (fRet (fCall sortedO (pCons (fVar 1) fNil))))
def F_law_lines : List R → Pw → FRes := runF 4 1 p_law_lines
def t_law_k11_1 : M Bool := fB (fOp (lift2 ltO) (fOp (lift2 ixO) (fVar 8) (fC (.int 0))) (fOp (lift2 ixO) (fVar 8) (fUn (lift1 negO) (fC (.int 1)))))
def e_law_k11_2 : M R := fVar 8
abbrev l_law_k11_2 : M R := fLc (fLstI (fVar 6)) (bName 8) (t_law_k11_1) (e_law_k11_2) [8]
def b_law_k11_3 : DSt → Flow := nApp 6 7 (.int (-7))
abbrev o_law_k11_3 : List PyData → DSt → Flow := loopF (bName 7) b_law_k11_3
def e_law_k11_4 : M R := fCall lenO (pCons (fVar 8) fNil)
abbrev l_law_k11_4 : M R := fLc (fLstI (fVar 6)) (bName 8) fYes (e_law_k11_4) [8]
def n_law_k11_5 : DSt → Flow := fseq (vwIf (fOr (fNot (fB (fIsi "list" (fVar 6)))) (fOr (fB (fOp (lift2 neO) (fVar 6) (fVar 4))) (fB (fOp (lift2 neO) (fVar 5) (fVar 3))))) (fRet (fC (.bool false)))) (fseq (vwIf (fB (fOp (lift2 neO) (fCall lenO (pCons (fVar 6) fNil)) (fOp (lift2 addO) (fOp (lift2 mulO) (fC (.int 2)) (fCall lenO (pCons (fLc (fLstI (fVar 6)) (bName 8) (t_law_k11_1) (e_law_k11_2) [8]) fNil))) (fCall intO (pCons (fOp (lift2 eqO) (fCall lenO (pCons (fVar 3) fNil)) (fC (.int 1))) fNil))))) (fRet (fC (.bool false)))) (fseq (nForR 7 (pCons (fCall lenO (pCons (fVar 6) fNil)) fNil) b_law_k11_3) (vwIf (fOr (fB (fOp (lift2 neO) (fLc (fLstI (fVar 6)) (bName 8) fYes (e_law_k11_4) [8]) (fOp (lift2 mulO) (fLst (fCons (fOp (lift2 addO) (fCall lenO (pCons (fVar 3) fNil)) (fC (.int 1))) fNil)) (fCall lenO (pCons (fVar 4) fNil))))) (fB (fOp (lift2 neO) (fVar 5) (fVar 3)))) (fRet (fC (.bool false))))))
abbrev o_law_k11_5 : DSt → Flow := fNB 6 [4] (fUser F_lines_ofD (fCons (fVar 5) fNil)) n_law_k11_5
def b_law_k11_6 : DSt → Flow := fseq (fSet 3 (fUser F_law_mixed (fCons (fVar 1) (fCons (fUser F_law_names (fCons (fVar 1) (fCons (fUser F_law_many (fCons (fVar 1) fNil)) fNil))) fNil)))) (fseq (fSet 4 (fUser F_law_lines (fCons (fVar 3) fNil))) (fseq (fSet 5 (fCall listO (pCons (fVar 3) fNil))) (fNB 6 [4] (fUser F_lines_ofD (fCons (fVar 5) fNil)) n_law_k11_5)))
abbrev o_law_k11_6 : List PyData → DSt → Flow := loopF (bName 2) b_law_k11_6
def p_law_k11 : DSt → Flow := fseq (fFor (fRng1 (pCons (fC (.int 3)) fNil)) (bName 2) b_law_k11_6) (fRet (fC (.bool true)))
def F_law_k11 : List R → Pw → FRes := runF 9 1 p_law_k11
theorem law_lines_eq : F_law_lines = F_grown := rfl
def fst0 (ℓ : List Int) : Int := ℓ.headD 0
def lst0 (ℓ : List Int) : Int := ℓ.getLastD 0
theorem lst_snoc (o : List Int) (b : Int) : lst0 (o ++ [b]) = b := by
  unfold lst0
  rw [List.getLastD_eq_getLast?, List.getLast?_append]
  rfl
theorem fst_rev (ℓ : List Int) : lst0 ℓ.reverse = fst0 ℓ := by unfold fst0 lst0; cases ℓ <;> simp
theorem lst_rev (ℓ : List Int) : fst0 ℓ.reverse = lst0 ℓ := by
  have := fst_rev ℓ.reverse
  rw [List.reverse_reverse] at this
  exact this.symm
theorem head_last {ℓ : List Int} (h : ℓ.Nodup) (h2 : 2 ≤ ℓ.length) : fst0 ℓ ≠ lst0 ℓ := by
  obtain ⟨o, z, rfl⟩ := (snoc_of ℓ).resolve_left (by rintro rfl; simp at h2)
  match o, h2 with
  | a :: o, _ =>
    have e1 : fst0 (a :: o ++ [z]) = a := rfl
    have e2 : lst0 (a :: o ++ [z]) = z := lst_snoc (a :: o) z
    rw [e1, e2]
    intro e
    subst e
    simp at h
theorem len_filter (p : List Int → Bool) : ∀ l : List (List Int), l.length = (l.filter p).length + (l.filter fun x => !p x).length
  | [] => rfl
  | a :: l => by
    have := len_filter p l
    rw [List.filter_cons, List.filter_cons]
    cases p a <;> simp <;> omega
theorem half_count {r : List Int} (hr : Rank r) : (grownL r).length = 2 * ((grownL r).filter fun ℓ => decide (fst0 ℓ < lst0 ℓ)).length + (if r.length = 1 then 1 else 0) := by
  have h0 : r ≠ [] := List.length_pos_iff.mp hr.2.2.1
  have nd := grown_nodup hr.1 h0
  have mg := fun ℓ => mem_grown (ℓ := ℓ) hr.1 h0
  by_cases h1 : r.length = 1
  · rw [if_pos h1, grown_len, h1]
    have : ((grownL r).filter fun ℓ => decide (fst0 ℓ < lst0 ℓ)) = [] := by
      rw [List.filter_eq_nil_iff]
      intro ℓ hℓ
      have := ((mg ℓ).mp hℓ).1.length_eq
      obtain ⟨x, rfl⟩ : ∃ x, ℓ = [x] := List.length_eq_one_iff.mp (by omega)
      have : lst0 [x] = fst0 [x] := rfl
      simp [this]
    rw [this]
    rfl
  · rw [if_neg h1]
    have rv : ∀ ℓ, ℓ ∈ grownL r → ℓ.reverse ∈ grownL r := fun ℓ h => by
      obtain ⟨p, n⟩ := (mg ℓ).mp h
      exact (mg _).mpr ⟨p.trans (List.reverse_perm ℓ).symm, (noV_rev (p.nodup_iff.mp hr.1)).mpr n⟩
    have p : (((grownL r).filter fun ℓ => decide (fst0 ℓ < lst0 ℓ)).map List.reverse).Perm ((grownL r).filter fun ℓ => !decide (fst0 ℓ < lst0 ℓ)) := by
      refine (List.perm_ext_iff_of_nodup ?_ (nd.sublist List.filter_sublist)).mpr fun ℓ => ?_
      · rw [List.Nodup, List.pairwise_map]
        exact (nd.sublist List.filter_sublist).imp fun h e => h (List.reverse_inj.mp e)
      · rw [List.mem_map, List.mem_filter]
        constructor
        · rintro ⟨m, hm, rfl⟩
          obtain ⟨h1, h2⟩ := List.mem_filter.mp hm
          refine ⟨rv m h1, ?_⟩
          rw [fst_rev, lst_rev]
          have h2 := of_decide_eq_true h2
          rw [decide_eq_false (by omega)]
          rfl
        · rintro ⟨h1', h2⟩
          refine ⟨ℓ.reverse, List.mem_filter.mpr ⟨rv ℓ h1', ?_⟩, List.reverse_reverse ℓ⟩
          rw [fst_rev, lst_rev]
          have pl := ((mg ℓ).mp h1').1
          have := head_last (pl.nodup_iff.mp hr.1) (by have := pl.length_eq; have := hr.2.2.1; omega)
          have h2 : ¬ fst0 ℓ < lst0 ℓ := fun z => by rw [decide_eq_true z] at h2; cases h2
          exact decide_eq_true (by omega)
    have e1 := p.length_eq
    rw [List.length_map] at e1
    have e2 := len_filter (fun ℓ => decide (fst0 ℓ < lst0 ℓ)) (grownL r)
    omega
def apD (ℓ : List Int) : PyData := .list ((ℓ ++ [-7]).map .int)
theorem ixN_ok {n i : Nat} (h : i < n) : ixN n (i : Int) = some i := by
  unfold ixN
  rw [if_pos (by omega), if_pos (by omega)]
  simp
theorem nest_ll {A : List (List Int)} (h : A.Nodup) : nestOk1 (A.map llD) := by
  refine ⟨fun d hd => ?_, ?_⟩
  · obtain ⟨ℓ, _, rfl⟩ := List.mem_map.mp hd
    exact atomD_ints
  · rw [List.Nodup, List.pairwise_map]
    exact h.imp fun h e => h (llD_inj e)
theorem law_k11_ok : LawOk 9 p_law_k11 := by
  intro a pa ca cells ne hc hl
  have w0 : WP pa (some (pa, ca, cells, 0)) 0 := ⟨ca, cells, 0, rfl, hc, by decide, by decide⟩
  obtain ⟨s', e, v2, v3, v4, v5, v7, w', hw, _, rfl⟩ := loopN (b := bName 2) (p := b_law_k11_6) (f := fun (k : Nat) => PyData.int (k : Int)) (l := List.range 3) (s := ⟨[.raw (.ref a), .raw (.ref pa), .no, .no, .no, .no, .no, .no, .no], some (pa, ca, cells, 0)⟩)
    (fun i s => ∃ (v2 v3 v4 v5 v7 : Sl) (w : Pw), WP pa w (1000000 * i) ∧ (okP v7 v7 ∧ flatS [v7, .no]) ∧ s = ⟨[.raw (.ref a), .raw (.ref pa), v2, v3, v4, v5, .no, v7, .no], w⟩) ⟨_, _, _, _, .no, _, by simpa using w0, by simp, rfl⟩ (by
      rintro i x s hi hx ⟨v2, v3, v4, v5, v7, w, hw, ⟨hv7, hf7⟩, rfl⟩
      obtain ⟨rfl, hi4⟩ := range_at hi
      obtain ⟨n, w1, e1, n1, n2, q1⟩ := many_ok hw (by omega)
      obtain ⟨ns, w2, e2, l2, d2, p2, q2⟩ := names_ok (n := n) q1 (by omega) (by omega)
      obtain ⟨L, w3, e3, p3, q3⟩ := mixedI_ok (ns := ns) q2 (by omega) (by omega)
      have rL : Rank L := Rank.perm ⟨d2, p2, by omega, by omega⟩ p3
      have l0 := rL.2.2.1
      have l1 := rL.2.2.2
      have L0 := List.length_pos_iff.mp l0
      have t1 : ∀ w, F_law_lines [.val (.list ((L).map .int))] w = .ok (.new ((grownL L).map llD)) w := fun w => by rw [law_lines_eq]; exact grown_ok L0 l1
      have t2 : ∀ w, F_lines_ofD [.val (.list ((L).map .int))] w = .ok (.new ((grownL L).map llD)) w := fun w => lines_ofD_ok rL
      have hcnt := half_count rL
      have nd := grown_nodup rL.1 L0
      have hA : ∀ ℓ ∈ grownL L, ℓ.length = L.length := fun ℓ h => ((mem_grown rL.1 L0).mp h).1.length_eq.symm
      have lA : (grownL L).length ≤ 512 := by
        rw [grown_len]
        have : 2 ^ (L.length - 1) ≤ 2 ^ 9 := Nat.pow_le_pow_right (by decide) (by omega)
        omega
      obtain ⟨A, eA⟩ : ∃ A, A = grownL L := ⟨_, rfl⟩
      rw [← eA] at t1 t2 hcnt nd hA lA
      have q1n : neO (.list (A.map llD)) (.list (A.map llD)) = some (.val (.bool false)) := by rw [x_neLL]; simp
      have nok := nest_ll nd
      obtain ⟨c, hcc⟩ : ∃ c, c = (A.filter fun ℓ => decide (fst0 ℓ < lst0 ℓ)).length := ⟨_, rfl⟩
      rw [← hcc] at hcnt
      have ec : ∀ v7 : Sl, l_law_k11_2 ⟨[.raw (.ref a), .raw (.ref pa), .val (.int ((x : Nat) : Int)), .val (.list ((L).map .int)), .val (.list (A.map llD)), .val (.list ((L).map .int)), .val (.list (A.map llD)), v7, .no], w3⟩ = .ok (.new ((A.filter fun ℓ => decide (fst0 ℓ < lst0 ℓ)).map llD)) ⟨[.raw (.ref a), .raw (.ref pa), .val (.int ((x : Nat) : Int)), .val (.list ((L).map .int)), .val (.list (A.map llD)), .val (.list ((L).map .int)), .val (.list (A.map llD)), v7, .no], w3⟩ := by
        intro v7
        refine lc_gen (fun o : List Int => ⟨[.raw (.ref a), .raw (.ref pa), .val (.int ((x : Nat) : Int)), .val (.list ((L).map .int)), .val (.list (A.map llD)), .val (.list ((L).map .int)), .val (.list (A.map llD)), v7, .val (llD o)], w3⟩) (fun ℓ => decide (fst0 ℓ < lst0 ℓ)) llD (f := llD) (l := A) (by simp -implicitDefEqProofs) (by omega) rfl (fun a _ => by rfl) (fun a _ => by rfl) (fun o ho => ?_) (fun o ho _ => ?_)
        · have ho2 := hA o ho
          have a0 : atI (o.map PyData.int) 0 = some (.int (fst0 o)) := by
            obtain ⟨b, o', rfl⟩ := List.exists_cons_of_ne_nil (List.length_pos_iff.mp (by omega : 0 < o.length))
            simp [fst0]
          have a1 : atI (o.map PyData.int) (-1) = some (.int (lst0 o)) := by
            obtain ⟨o', b, rfl⟩ := (snoc_of o).resolve_left (by rintro rfl; simp at ho2; omega)
            rw [List.map_append]
            have e2 : lst0 (o' ++ [b]) = b := lst_snoc o' b
            rw [e2]
            exact atI_last (o'.map PyData.int) (.int b)
          unfold t_law_k11_1
          simp -implicitDefEqProofs [llD, a0, a1]
        · unfold e_law_k11_2
          simp -implicitDefEqProofs [llD]
      have ec2 := ec v7
      obtain ⟨B, hB⟩ : ∃ B, B = A.filter fun ℓ => decide (fst0 ℓ < lst0 ℓ) := ⟨_, rfl⟩
      rw [← hB] at ec2 hcc
      obtain ⟨s5, e5, v7', ⟨hv8, hf8⟩, rfl⟩ := loopN (b := bName 7) (p := b_law_k11_3) (f := fun (k : Nat) => PyData.int (k : Int)) (l := List.range A.length) (s := ⟨[.raw (.ref a), .raw (.ref pa), .val (.int ((x : Nat) : Int)), .val (.list ((L).map .int)), .val (.list (A.map llD)), .val (.list ((L).map .int)), .val (.list (A.map llD)), v7, .no], w3⟩)
        (fun i s => ∃ v7 : Sl, (okP v7 v7 ∧ flatS [v7, .no]) ∧ s = ⟨[.raw (.ref a), .raw (.ref pa), .val (.int ((x : Nat) : Int)), .val (.list ((L).map .int)), .val (.list (A.map llD)), .val (.list ((L).map .int)), .val (.list ((A.take i).map apD ++ (A.drop i).map llD)), v7, .no], w3⟩) ⟨v7, ⟨hv7, hf7⟩, by simp⟩ (by
          rintro i k s hi hk ⟨v7, ⟨hv7, hf7⟩, rfl⟩
          obtain ⟨rfl, hk2⟩ := range_at hi
          have hlen : ((A.take k).map apD ++ (A.drop k).map llD).length = A.length := by simp; omega
          have hix : ixN ((A.take k).map apD ++ (A.drop k).map llD).length (k : Int) = some k := by rw [hlen]; exact ixN_ok hk2
          have hat : ((A.take k).map apD ++ (A.drop k).map llD)[k]? = some (.list (A[k].map .int)) := by
            rw [List.getElem?_append_right (by simp; omega)]
            simp only [List.length_map, List.length_take, Nat.min_eq_left (Nat.le_of_lt hk2), Nat.sub_self, List.getElem?_map, List.getElem?_drop, Nat.add_zero, List.getElem?_eq_getElem hk2]
            rfl
          have hset : ((A.take k).map apD ++ (A.drop k).map llD).set k (.list (A[k].map .int ++ [.int (-7)])) = (A.take (k + 1)).map apD ++ (A.drop (k + 1)).map llD := by
            rw [take_succ (List.getElem?_eq_getElem hk2), List.drop_eq_getElem_cons hk2, List.set_append_right _ _ (by simp; omega)]
            simp only [List.length_map, List.length_take, Nat.min_eq_left (Nat.le_of_lt hk2), Nat.sub_self, List.map_cons, List.set_cons_zero, List.map_append, List.append_assoc]
            simp [apD]
          have hl2 : ltS (A[k].map PyData.int).length := size_lt (by have := hA _ (List.getElem_mem hk2); simp; omega)
          obtain ⟨U, hU⟩ : ∃ U, U = (A.take k).map apD ++ (A.drop k).map llD := ⟨_, rfl⟩
          obtain ⟨U', hU'⟩ : ∃ U', U' = (A.take (k + 1)).map apD ++ (A.drop (k + 1)).map llD := ⟨_, rfl⟩
          obtain ⟨m, hm⟩ : ∃ m, m = A[k].map PyData.int := ⟨_, rfl⟩
          rw [← hm] at hat hset hl2
          rw [← hU] at hix hat hset ⊢
          rw [← hU'] at hset ⊢
          unfold b_law_k11_3
          simp -implicitDefEqProofs [hix, hat, hset, hl2, hv7, hf7])
      rw [List.length_range, List.take_length, List.drop_length, List.map_nil, List.append_nil] at e5
      have e6 : l_law_k11_4 ⟨[.raw (.ref a), .raw (.ref pa), .val (.int ((x : Nat) : Int)), .val (.list ((L).map .int)), .val (.list (A.map llD)), .val (.list ((L).map .int)), .val (.list (A.map apD)), v7', .no], w3⟩ = .ok (.new (A.map fun _ => .int ((L.length : Int) + 1))) ⟨[.raw (.ref a), .raw (.ref pa), .val (.int ((x : Nat) : Int)), .val (.list ((L).map .int)), .val (.list (A.map llD)), .val (.list ((L).map .int)), .val (.list (A.map apD)), v7', .no], w3⟩ := by
        refine lc_all (fun o : List Int => ⟨[.raw (.ref a), .raw (.ref pa), .val (.int ((x : Nat) : Int)), .val (.list ((L).map .int)), .val (.list (A.map llD)), .val (.list ((L).map .int)), .val (.list (A.map apD)), v7', .val (apD o)], w3⟩) _ (f := apD) (l := A) (by simp -implicitDefEqProofs) (by omega) rfl (fun a _ => by rfl) (fun a _ => by rfl) (fun o ho => ?_)
        have := hA o ho
        unfold e_law_k11_4
        simp -implicitDefEqProofs [apD, this]
      have er : (List.replicate A.length [PyData.int ((L.length : Int) + 1)]).flatten = A.map fun _ => PyData.int ((L.length : Int) + 1) := by
        have : ∀ l : List (List Int), (List.replicate l.length [PyData.int ((L.length : Int) + 1)]).flatten = l.map fun _ => PyData.int ((L.length : Int) + 1) := by
          intro l
          induction l with
          | nil => rfl
          | cons b l ih => simp [List.replicate_succ, ih]
        exact this A
      have em : mulO (.list [PyData.int ((L.length : Int) + 1)]) (.int (A.length : Int)) = some (.new (A.map fun _ => PyData.int ((L.length : Int) + 1))) := by
        have h1 : inW (A.length : Int) := inW_of (by omega) (by omega)
        have h2 : leS A.length := size_le (by omega)
        simp -implicitDefEqProofs [h1, h2, er]
      have q2n : neO (.list (A.map fun _ => PyData.int ((L.length : Int) + 1))) (.list (A.map fun _ => PyData.int ((L.length : Int) + 1))) = some (.val (.bool false)) := by
        have e : (A.map fun _ => PyData.int ((L.length : Int) + 1)) = (A.map fun _ => (L.length : Int) + 1).map .int := by rw [List.map_map]; rfl
        rw [e]
        obtain ⟨M, hM⟩ : ∃ M, M = A.map fun _ => (L.length : Int) + 1 := ⟨_, rfl⟩
        rw [← hM]
        simp
      have hmul : mulO (.int 2) (.int (c : Int)) = some (.val (.int ((2 * c : Nat) : Int))) := by
        rw [mul_ok (by omega) (by omega) (by omega) (by omega)]
        simp
      have hd : decide ((L.length : Int) = 1) = decide (L.length = 1) := by
        rw [decide_eq_decide]; omega
      have hin : inB (A.length : Int) := inB_of (by omega) (by omega)
      have hcc2 : ((A.length : Nat) : Int) = 2 * ((c : Nat) : Int) + (if L.length = 1 then 1 else 0) := by
        rw [hcnt]; split <;> omega
      have rd : rangeD 0 A.length = (List.range A.length).map (fun (k : Nat) => PyData.int (k : Int)) := (range_D _).symm
      obtain ⟨G, hG⟩ : ∃ G, G = A.map fun _ => PyData.int ((L.length : Int) + 1) := ⟨_, rfl⟩
      rw [← hG] at e6 em q2n
      subst hcc
      unfold b_law_k11_6 n_law_k11_5
      simp -implicitDefEqProofs [e1, e2, e3, t1, t2, nok, q1n, ec2, hmul, hcc2.symm, hd, hin, rd, e5, e6, em, q2n, hv7, hf7, hv8, hf8]
      exact ⟨_, _, _, _, _, _, q3.mono (by omega), ⟨hv8, hf8⟩, ⟨rfl, rfl, rfl, rfl, rfl⟩, rfl⟩)
  unfold p_law_k11
  simp -implicitDefEqProofs [rangeD, e]

end DL

noncomputable section
namespace DL
open PySem L2

theorem small_ll {f : List (List Int)} (h : ∀ r ∈ f, Names r) : smallA (f.map llD) = true := by
  induction f with
  | nil => rfl
  | cons a f ih =>
    rw [List.map_cons, small_cons, ih fun r hr => h r (List.mem_cons_of_mem _ hr), Bool.and_true]
    exact (h a List.mem_cons_self).small
theorem wgt_ll {f : List (List Int)} (h : ∀ r ∈ f, r.length ≤ 10) : wgtA (f.map llD) ≤ 1040 * f.length := by
  induction f with
  | nil => exact Nat.le_refl _
  | cons a f ih =>
    have := ih fun r hr => h r (List.mem_cons_of_mem _ hr)
    have h1 := h a List.mem_cons_self
    have e : wgt (llD a) = 102 * a.length + 10 := by
      unfold llD
      rw [wgt_list, wgtA_ints]
    rw [List.map_cons, wgtA_cons, List.length_cons, e]
    omega
theorem folk_of3 {L : List Int} (hL : Rank L) {f : List (List Int)} (h0 : 0 < f.length) (h1 : f.length ≤ 20) (h : ∀ r ∈ f, r.Perm L) : Folk f := ⟨h0, h1, fun r hr => ⟨hL.perm (h r hr), fun q hq => (h q hq).trans (h r hr).symm⟩⟩
theorem cut_last {L : List Int} (h : 0 < L.length) : cutI L (some (-1)) none = L.drop (L.length - 1) := by
  unfold cutI
  have e1 : HT.sIx L.length 0 (some (-1)) = L.length - 1 := by
    unfold HT.sIx
    simp
    omega
  have e2 : HT.sIx L.length L.length none = L.length := rfl
  rw [e1, e2]
  apply List.take_of_length_le
  simp

end DL

noncomputable section
namespace DL
open PySem L2
def t_law_common_1 : M Bool := fB (fOp (lift2 inO) (fVar 4) (fVar 3))
def e_law_common_2 : M R := fVar 4
abbrev l_law_common_2 : M R := fLc (fLstI (fVar 1)) (bName 4) (t_law_common_1) (e_law_common_2) [4]
def b_law_common_3 : DSt → Flow := fseq (fSet 3 (fUser F_lines_of (fCons (fVar 2) fNil))) (fSet 1 (fLc (fLstI (fVar 1)) (bName 4) (t_law_common_1) (e_law_common_2) [4]))
abbrev o_law_common_3 : List PyData → DSt → Flow := loopF (bName 2) b_law_common_3
def p_law_common : DSt → Flow := fseq (fSet 1 (fUser F_lines_of (fCons (fOp (lift2 ixO) (fVar 0) (fC (.int 0))) fNil))) (fseq (fFor (fLstI (fSlice (fVar 0) (fPart (fC (.int 1))) fNoPart)) (bName 2) b_law_common_3) (fRet (fVar 1)))
def F_law_common : List R → Pw → FRes := runF 5 1 p_law_common
def e_law_told_v4_1 : M R := fUser F_falls (fCons (fVar 5) (fCons (fVar 8) fNil))
abbrev l_law_told_v4_1 : M R := fLc (fLstI (fVar 1)) (bName 8) fYes (e_law_told_v4_1) [8]
def b_law_told_v4_2 : DSt → Flow := fIfS (fB (fOp (lift2 inO) (fC (.bool false)) (fLc (fLstI (fVar 1)) (bName 8) fYes (e_law_told_v4_1) [8]))) (fRet (fC (.bool false))) fnext
abbrev o_law_told_v4_2 : List PyData → DSt → Flow := loopF (bName 5) b_law_told_v4_2
def t_law_told_v4_3 : M Bool := fB (fOp (lift2 inO) (fVar 5) (fVar 6))
def e_law_told_v4_4 : M R := fVar 5
abbrev l_law_told_v4_4 : M R := fLc (fLstI (fVar 4)) (bName 5) (t_law_told_v4_3) (e_law_told_v4_4) [5]
def e_law_told_v4_5 : M R := fUser F_cut_down (fCons (fVar 8) (fCons (fVar 3) fNil))
abbrev l_law_told_v4_5 : M R := fLc (fLstI (fVar 1)) (bName 8) fYes (e_law_told_v4_5) [8]
def t_law_told_v4_6 : M Bool := fB (fOp (lift2 notInO) (fUser F_cut_down (fCons (fVar 5) (fCons (fVar 3) fNil))) (fVar 7))
def e_law_told_v4_7 : M R := fVar 5
abbrev l_law_told_v4_7 : M R := fLc (fLstI (fVar 4)) (bName 5) (t_law_told_v4_6) (e_law_told_v4_7) [5]
def p_law_told_v4 : DSt → Flow := fseq (fSet 4 (fUser F_all_lines (fCons (fVar 1) fNil))) (fseq (fIfS (fB (fOp (lift2 neO) (fVar 4) (fUser F_law_common (fCons (fVar 1) fNil)))) (fRet (fC (.bool false))) fnext) (fseq (fFor (fLstI (fVar 4)) (bName 5) b_law_told_v4_2) (fseq (fSet 6 (fUser F_lines_of (fCons (fVar 2) fNil))) (fseq (fIfS (fB (fOp (lift2 neO) (fUser F_all_lines (fCons (fOp (lift2 addO) (fVar 1) (fLst (fCons (fVar 2) fNil))) fNil)) (fLc (fLstI (fVar 4)) (bName 5) (t_law_told_v4_3) (e_law_told_v4_4) [5]))) (fRet (fC (.bool false))) fnext) (fseq (fIfS (fB (fOp (lift2 neO) (fUser F_all_lines (fCons (fUser F_law_mixed (fCons (fVar 0) (fCons (fOp (lift2 addO) (fVar 1) (fSlice (fVar 1) fNoPart (fPart (fC (.int 1))))) fNil))) fNil)) (fVar 4))) (fRet (fC (.bool false))) fnext) (fseq (fSet 7 (fUser F_all_lines (fCons (fLc (fLstI (fVar 1)) (bName 8) fYes (e_law_told_v4_5) [8]) fNil))) (fRet (fOp (lift2 eqO) (fLc (fLstI (fVar 4)) (bName 5) (t_law_told_v4_6) (e_law_told_v4_7) [5]) (fLst fNil)))))))))
def F_law_told_v4 : List R → Pw → FRes := runF 9 4 p_law_told_v4
def e_law_k14_1 : M R := fUser F_law_falling (fCons (fVar 1) (fCons (fVar 3) fNil))
abbrev l_law_k14_1 : M R := fLc (fRng1 (pCons (fOp (lift2 addO) (fC (.int 1)) (fUser F_law_draw (fCons (fVar 1) (fCons (fC (.int 5)) fNil)))) fNil)) (bName 8) fYes (e_law_k14_1) [8]
def t_law_k14_2 : M Bool := fB (fOp (lift2 eqO) (fUser F_law_draw (fCons (fVar 1) (fCons (fC (.int 2)) fNil))) (fC (.int 0)))
def e_law_k14_3 : M R := fVar 9
abbrev l_law_k14_3 : M R := fLc (fLstI (fVar 3)) (bName 9) (t_law_k14_2) (e_law_k14_3) [9]
def b_law_k14_4 : DSt → Flow := fseq (fSet 3 (fUser F_law_mixed (fCons (fVar 1) (fCons (fUser F_law_names (fCons (fVar 1) (fCons (fOp (lift2 addO) (fC (.int 2)) (fUser F_law_draw (fCons (fVar 1) (fCons (fC (.int 7)) fNil)))) fNil))) fNil)))) (fseq (fSet 4 (fLc (fRng1 (pCons (fOp (lift2 addO) (fC (.int 1)) (fUser F_law_draw (fCons (fVar 1) (fCons (fC (.int 5)) fNil)))) fNil)) (bName 8) fYes (e_law_k14_1) [8])) (fseq (fIfS (fB (fOp (lift2 eqO) (fUser F_law_draw (fCons (fVar 1) (fCons (fC (.int 4)) fNil))) (fC (.int 0)))) (fSetIx 4 (fUser F_law_mixed (fCons (fVar 1) (fCons (fVar 3) fNil))) (fC (.int 0))) fnext) (fseq (fSet 5 (fOp (lift2 ixO) (fLst (fCons (fUser F_law_falling (fCons (fVar 1) (fCons (fVar 3) fNil))) (fCons (fUser F_law_mixed (fCons (fVar 1) (fCons (fVar 3) fNil))) fNil))) (fUser F_law_draw (fCons (fVar 1) (fCons (fC (.int 2)) fNil))))) (fseq (fSet 6 (fOp (lift2 addO) (fLc (fLstI (fVar 3)) (bName 9) (t_law_k14_2) (e_law_k14_3) [9]) (fSlice (fVar 3) (fPart (fUn (lift1 negO) (fC (.int 1)))) fNoPart))) (fseq (fSet 7 (fStr (fLst (fCons (fVar 4) (fCons (fVar 5) (fCons (fVar 6) fNil)))))) (fIfS (fOr (fNot (fB (fUser F_law_told_v4 (fCons (fVar 1) (fCons (fVar 4) (fCons (fVar 5) (fCons (fVar 6) fNil))))))) (fB (fOp (lift2 neO) (fStr (fLst (fCons (fVar 4) (fCons (fVar 5) (fCons (fVar 6) fNil))))) (fVar 7)))) (fRet (fC (.bool false))) fnext))))))
abbrev o_law_k14_4 : List PyData → DSt → Flow := loopF (bName 2) b_law_k14_4
def p_law_k14 : DSt → Flow := fseq (fFor (fRng1 (pCons (fC (.int 3)) fNil)) (bName 2) b_law_k14_4) (fRet (fC (.bool true)))
def F_law_k14 : List R → Pw → FRes := runF 10 1 p_law_k14
def comL (F : List (List Int)) (rs : List (List Int)) : List (List Int) := rs.foldl (fun F r => F.filter fun ℓ => decide (ℓ ∈ grownL r)) F
theorem comL_eq : ∀ (rs F : List (List Int)), comL F rs = F.filter fun ℓ => rs.all fun r => decide (ℓ ∈ grownL r)
  | [], F => (List.filter_eq_self.mpr fun _ _ => rfl).symm
  | r :: rs, F => by
    show comL (F.filter fun ℓ => decide (ℓ ∈ grownL r)) rs = _
    rw [comL_eq rs, List.filter_filter]
    refine List.filter_congr fun ℓ _ => ?_
    rw [List.all_cons, Bool.and_comm]
theorem com_lines {f : List (List Int)} (hf : Folk f) : comL (grownL (f.headD [])) (f.drop 1) = linesF f := by
  rw [comL_eq]
  unfold linesF
  obtain ⟨h0, h1, h2⟩ := hf
  obtain ⟨a, f', rfl⟩ := List.exists_cons_of_ne_nil (List.length_pos_iff.mp h0)
  have ra := (h2 a List.mem_cons_self).1
  refine List.filter_congr fun ℓ hℓ => ?_
  have hℓ := (mem_grown ra.1 (List.length_pos_iff.mp ra.2.2.1)).mp hℓ
  show f'.all _ = (a :: f').all _
  rw [List.all_cons, fallB_iff.mpr hℓ.2, Bool.true_and, Bool.eq_iff_iff, List.all_eq_true, List.all_eq_true]
  have key : ∀ r ∈ f', fallB ℓ r = decide (ℓ ∈ grownL r) := fun r hr => fall_mem (h2 r (List.mem_cons_of_mem _ hr)).1 (((h2 r (List.mem_cons_of_mem _ hr)).2 a List.mem_cons_self).symm.trans hℓ.1)
  exact ⟨fun h r hr => by rw [key r hr]; exact h r hr, fun h r hr => by rw [← key r hr]; exact h r hr⟩
theorem common_ok {f : List (List Int)} {w : Pw} (hf : Folk f) : F_law_common [.val (.list ((f).map llD))] w = .ok (.new ((linesF f).map llD)) w := by
  have hf' := hf
  obtain ⟨h0, h1, h2⟩ := hf
  have hm := head_mem h0
  obtain ⟨a, ea⟩ : ∃ a, a = f.headD [] := ⟨_, rfl⟩
  have ecom := com_lines hf'
  rw [← ea] at hm ecom
  have ra := (h2 a hm).1
  have e0 : f[0]? = some a := by
    cases f with
    | nil => simp at h0
    | cons b f => rw [ea]; rfl
  have fl : ∀ F rs, (comL F rs).length ≤ F.length := fun F rs => by rw [comL_eq]; exact List.length_filter_le _ _
  have gl : (grownL a).length ≤ 512 := by
    rw [grown_len]
    have : 2 ^ (a.length - 1) ≤ 2 ^ 9 := Nat.pow_le_pow_right (by decide) (by have := ra.2.2.2; omega)
    omega
  obtain ⟨s', e, v2, v3, rfl⟩ := loopN (b := bName 2) (p := b_law_common_3) (f := llD) (l := f.drop 1) (s := ⟨[.val (.list ((f).map llD)), .own ((grownL a).map llD), .no, .no, .no], w⟩)
    (fun i s => ∃ v2 v3, s = ⟨[.val (.list ((f).map llD)), .own ((comL (grownL a) ((f.drop 1).take i)).map llD), v2, v3, .no], w⟩) ⟨_, _, rfl⟩ (by
      rintro i r s hi hr ⟨v2, v3, rfl⟩
      have rr := (h2 r (List.mem_of_mem_drop hr)).1
      have hF := fl (grownL a) ((f.drop 1).take i)
      have en : comL (grownL a) ((f.drop 1).take (i + 1)) = (comL (grownL a) ((f.drop 1).take i)).filter fun ℓ => decide (ℓ ∈ grownL r) := by
        rw [take_succ hi]
        unfold comL
        rw [List.foldl_append]
        rfl
      rw [en]
      obtain ⟨F, eF⟩ : ∃ F, F = comL (grownL a) ((f.drop 1).take i) := ⟨_, rfl⟩
      rw [← eF] at hF ⊢
      have e2 : l_law_common_2 ⟨[.val (.list ((f).map llD)), .own ((F).map llD), .val (.list (r.map .int)), .own ((grownL r).map llD), .no], w⟩ = .ok (.new ((F.filter fun ℓ => decide (ℓ ∈ grownL r)).map llD)) ⟨[.val (.list ((f).map llD)), .val (.list ((F).map llD)), .val (.list (r.map .int)), .own ((grownL r).map llD), .no], w⟩ := by
        refine lc_gen (fun o : List Int => ⟨[.val (.list ((f).map llD)), .val (.list ((F).map llD)), .val (.list (r.map .int)), .own ((grownL r).map llD), .val (llD o)], w⟩) _ llD (f := llD) (l := F) (by simp -implicitDefEqProofs) (by omega) rfl (fun a _ => by rfl) (fun a _ => by rfl) (fun o ho => ?_) (fun o ho _ => ?_)
        · have := x_inLL (x := o) (a := grownL r)
          unfold t_law_common_1
          simp -implicitDefEqProofs [this]
        · unfold e_law_common_2
          simp -implicitDefEqProofs [llD]
      have el : llD r = .list (r.map .int) := rfl
      unfold b_law_common_3
      rw [el]
      simp -implicitDefEqProofs [lines_of_ok rr, e2])
  rw [List.take_length, ecom] at e
  have cut : cutD (f.map llD) (some 1) none = (f.drop 1).map llD := by
    rw [cutD_map]
    congr 1
    exact cut_from (k := 1)
  obtain ⟨D, hD⟩ : ∃ D, D = f.drop 1 := ⟨_, rfl⟩
  rw [← hD] at cut e
  unfold F_law_common p_law_common
  simp only [x_runF]
  simp -implicitDefEqProofs [e0, llD, lines_of_ok ra]
  simp -implicitDefEqProofs [cut, e]
theorem told14_ok {pa : Addr} {w : Pw} {m : Int} {f : List (List Int)} {more S : List Int} (h : WP pa w m) (hmm : m < 2 ^ 58) (hf : Folk f) (hl : f.length ≤ 10) (hmo : ∀ q ∈ f, more.Perm q) (S0 : S ≠ []) (S1 : S.length ≤ 1000) (Sm : ∀ x ∈ S, x ∈ more) :
    ∃ w', F_law_told_v4 [.raw (.ref pa), .val (.list ((f).map llD)), .val (.list ((more).map .int)), .val (.list ((S).map .int))] w = .ok (.val (.bool true)) w' ∧ WP pa w' (m + 10000) := by
  have hm0 := head_mem hf.1
  have rmo : Rank more := (hf.2.2 _ hm0).1.perm (hmo _ hm0)
  have lL := lines_len hf
  obtain ⟨A, hA⟩ : ∃ A, A = linesF f := ⟨_, rfl⟩
  have mA : ∀ ℓ ∈ A, ∀ r ∈ f, r.Perm ℓ ∧ noV ℓ r := fun ℓ hℓ => (mem_linesF hf).mp (by rw [← hA]; exact hℓ)
  have rA : ∀ ℓ ∈ A, Rank ℓ := fun ℓ hℓ => (hf.2.2 _ hm0).1.perm (mA ℓ hℓ _ hm0).1.symm
  rw [← hA] at lL
  -- the folk and one more
  have hf1 := hf.add (r := more) (by omega) hmo
  have t1 : ∀ w, F_all_lines [.val (.list (f.map llD ++ [.list (more.map .int)]))] w = .ok (.new ((A.filter fun ℓ => decide (ℓ ∈ grownL more)).map llD)) w := fun w => by
    have := all_lines_ok (w := w) hf1
    rw [linesF_snoc hf, List.map_append, ← hA] at this
    have e : (A.filter fun ℓ => fallB ℓ more) = A.filter fun ℓ => decide (ℓ ∈ grownL more) := List.filter_congr fun ℓ hℓ => fall_mem rmo ((hmo _ hm0).trans (mA ℓ hℓ _ hm0).1)
    rw [e] at this
    exact this
  -- mixed
  obtain ⟨es, w1, e1, p1, q1⟩ := mixed_ok (ds := (f ++ f.take 1).map llD) h (by omega) (by simp; omega)
  obtain ⟨g, rfl, pg⟩ := perm_map_inv p1 rfl
  have mg : ∀ r, r ∈ g ↔ r ∈ f := fun r => by
    rw [pg.mem_iff, List.mem_append]
    exact ⟨fun h => h.elim id List.mem_of_mem_take, .inl⟩
  have hg : Folk g := hf.sub (by rw [pg.length_eq, List.length_append]; have := hf.1; omega) (by rw [pg.length_eq, List.length_append, List.length_take]; omega) fun r hr => (mg r).mp hr
  have t2 : ∀ w, F_all_lines [.val (.list ((g).map llD))] w = .ok (.new (A.map llD)) w := fun w => by
    have := all_lines_ok (w := w) hg
    rwa [linesF_eq hg hf mg, ← hA] at this
  -- cut down
  obtain ⟨C, hC⟩ : ∃ C, C = f.map fun r => cutL r S := ⟨_, rfl⟩
  have Sr : ∀ r ∈ f, ∀ x ∈ S, x ∈ r := fun r hr x hx => (hmo r hr).mem_iff.mp (Sm x hx)
  have fC : Folk C := by
    rw [hC]
    refine ⟨by simpa using hf.1, by simpa using hf.2.1, fun r hr => ?_⟩
    obtain ⟨q, hq, rfl⟩ := List.mem_map.mp hr
    refine ⟨cut_rank (hf.2.2 q hq).1 S0 (Sr q hq), fun p hp => ?_⟩
    obtain ⟨q', hq', rfl⟩ := List.mem_map.mp hp
    exact cut_perm (hf.2.2 q hq).1.1 ((hf.2.2 q hq).2 q' hq') fun _ => Iff.rfl
  have t3 := fun w => all_lines_ok (w := w) fC
  obtain ⟨B, hB⟩ : ∃ B, B = linesF C := ⟨_, rfl⟩
  rw [← hB] at t3
  have mB : ∀ ℓ ∈ A, cutL ℓ S ∈ B := fun ℓ hℓ => by
    rw [hB, mem_linesF fC, hC]
    intro r hr
    obtain ⟨q, hq, rfl⟩ := List.mem_map.mp hr
    obtain ⟨pq, vq⟩ := mA ℓ hℓ q hq
    exact ⟨cut_perm (rA ℓ hℓ).1 pq fun _ => Iff.rfl, noV_cut (rA ℓ hℓ).1 pq vq⟩
  have q1n : neO (.list (A.map llD)) (.list (A.map llD)) = some (.val (.bool false)) := by rw [x_neLL]; simp
  obtain ⟨D, hD⟩ : ∃ D, D = A.filter fun ℓ => decide (ℓ ∈ grownL more) := ⟨_, rfl⟩
  have q2n : neO (.list (D.map llD)) (.list (D.map llD)) = some (.val (.bool false)) := by rw [x_neLL]; simp
  rw [← hD] at t1
  have inner : ∀ ℓ ∈ A, ∀ v6 v7, l_law_told_v4_1 ⟨[.raw (.ref pa), .val (.list ((f).map llD)), .val (.list ((more).map .int)), .val (.list ((S).map .int)), .val (.list ((A).map llD)), .val (llD ℓ), v6, v7, .no], w⟩ = .ok (.new (f.map fun _ => .bool true)) ⟨[.raw (.ref pa), .val (.list ((f).map llD)), .val (.list ((more).map .int)), .val (.list ((S).map .int)), .val (.list ((A).map llD)), .val (llD ℓ), v6, v7, .no], w⟩ := by
    intro ℓ hℓ v6 v7
    refine lc_all (fun r : List Int => ⟨[.raw (.ref pa), .val (.list ((f).map llD)), .val (.list ((more).map .int)), .val (.list ((S).map .int)), .val (.list ((A).map llD)), .val (llD ℓ), v6, v7, .val (llD r)], w⟩) _ (f := llD) (l := f) (by simp -implicitDefEqProofs) (by omega) rfl (fun a _ => by rfl) (fun a _ => by rfl) (fun r hr => ?_)
    obtain ⟨pr, vr⟩ := mA ℓ hℓ r hr
    unfold e_law_told_v4_1
    simp -implicitDefEqProofs [llD, falls_ok (rA ℓ hℓ) pr, fallB_iff.mpr vr]
  have nin : inO (.bool false) (.list (f.map fun _ => PyData.bool true)) = some (.val (.bool false)) := by
    unfold inO
    simp only [items]
    rw [if_pos]
    · congr 3
      rw [Bool.eq_false_iff]
      intro z
      simp [PyData.eqv] at z
    · have : PyData.depthAll (f.map fun _ => PyData.bool true) ≤ 0 := by
        rw [depthAll_le]
        intro x hx
        obtain ⟨_, _, rfl⟩ := List.mem_map.mp hx
        simp
      simp
  obtain ⟨s', e5, u5, hu5, rfl⟩ := loopN (b := bName 5) (p := b_law_told_v4_2) (f := llD) (l := A) (s := ⟨[.raw (.ref pa), .val (.list ((f).map llD)), .val (.list ((more).map .int)), .val (.list ((S).map .int)), .val (.list ((A).map llD)), .no, .no, .no, .no], w⟩)
    (fun i s => ∃ u5, (∀ ds, u5 ≠ Sl.own ds) ∧ s = ⟨[.raw (.ref pa), .val (.list ((f).map llD)), .val (.list ((more).map .int)), .val (.list ((S).map .int)), .val (.list ((A).map llD)), u5, .no, .no, .no], w⟩) ⟨_, by simp, rfl⟩ (by
      rintro i ℓ s hi hℓ ⟨u5, _, rfl⟩
      have e := inner ℓ hℓ .no .no
      have el : llD ℓ = .list (ℓ.map .int) := rfl
      unfold b_law_told_v4_2
      rw [el] at e ⊢
      simp -implicitDefEqProofs [e, nin])
  have no5 : noOwn [5] [.raw (.ref pa), .val (.list ((f).map llD)), .val (.list ((more).map .int)), .val (.list ((S).map .int)), .val (.list ((A).map llD)), u5, .own ((grownL more).map llD), .no, .no] = true := by cases u5 <;> first | rfl | exact absurd rfl (hu5 _)
  have e4 : l_law_told_v4_4 ⟨[.raw (.ref pa), .val (.list ((f).map llD)), .val (.list ((more).map .int)), .val (.list ((S).map .int)), .val (.list ((A).map llD)), u5, .own ((grownL more).map llD), .no, .no], w⟩ = .ok (.new (D.map llD)) ⟨[.raw (.ref pa), .val (.list ((f).map llD)), .val (.list ((more).map .int)), .val (.list ((S).map .int)), .val (.list ((A).map llD)), u5, .own ((grownL more).map llD), .no, .no], w⟩ := by
    rw [hD]
    refine lc_gen (fun o : List Int => ⟨[.raw (.ref pa), .val (.list ((f).map llD)), .val (.list ((more).map .int)), .val (.list ((S).map .int)), .val (.list ((A).map llD)), .val (llD o), .own ((grownL more).map llD), .no, .no], w⟩) _ llD (f := llD) (l := A) (by simp -implicitDefEqProofs) (by omega) no5 (fun a _ => by rfl) (fun a _ => by rfl) (fun o ho => ?_) (fun o ho _ => ?_)
    · have := x_inLL (x := o) (a := grownL more)
      unfold t_law_told_v4_3
      simp -implicitDefEqProofs [this]
    · unfold e_law_told_v4_4
      simp -implicitDefEqProofs [llD]
  have e6 : l_law_told_v4_5 ⟨[.raw (.ref pa), .val (.list ((f).map llD)), .val (.list ((more).map .int)), .val (.list ((S).map .int)), .val (.list ((A).map llD)), u5, .own ((grownL more).map llD), .no, .no], w1⟩ = .ok (.new (C.map llD)) ⟨[.raw (.ref pa), .val (.list ((f).map llD)), .val (.list ((more).map .int)), .val (.list ((S).map .int)), .val (.list ((A).map llD)), u5, .own ((grownL more).map llD), .no, .no], w1⟩ := by
    rw [hC, List.map_map]
    refine lc_all (fun r : List Int => ⟨[.raw (.ref pa), .val (.list ((f).map llD)), .val (.list ((more).map .int)), .val (.list ((S).map .int)), .val (.list ((A).map llD)), u5, .own ((grownL more).map llD), .no, .val (llD r)], w1⟩) _ (f := llD) (l := f) (by simp -implicitDefEqProofs) (by omega) rfl (fun a _ => by rfl) (fun a _ => by rfl) (fun r hr => ?_)
    unfold e_law_told_v4_5
    simp -implicitDefEqProofs [llD, cut_down_ok (hf.2.2 r hr).1 S0 S1 (Sr r hr)]
  have no5' : noOwn [5] [.raw (.ref pa), .val (.list ((f).map llD)), .val (.list ((more).map .int)), .val (.list ((S).map .int)), .val (.list ((A).map llD)), u5, .own ((grownL more).map llD), .own ((B).map llD), .no] = true := by cases u5 <;> first | rfl | exact absurd rfl (hu5 _)
  have e7 : l_law_told_v4_7 ⟨[.raw (.ref pa), .val (.list ((f).map llD)), .val (.list ((more).map .int)), .val (.list ((S).map .int)), .val (.list ((A).map llD)), u5, .own ((grownL more).map llD), .own ((B).map llD), .no], w1⟩ = .ok (.new []) ⟨[.raw (.ref pa), .val (.list ((f).map llD)), .val (.list ((more).map .int)), .val (.list ((S).map .int)), .val (.list ((A).map llD)), u5, .own ((grownL more).map llD), .own ((B).map llD), .no], w1⟩ := by
    have e0 : (A.filter fun _ => false) = [] := by simp
    have := lc_gen (fi := fLstI (fVar 4)) (b := bName 5) (ft := t_law_told_v4_6) (fe := e_law_told_v4_7) (vs := [5]) (s := ⟨[.raw (.ref pa), .val (.list ((f).map llD)), .val (.list ((more).map .int)), .val (.list ((S).map .int)), .val (.list ((A).map llD)), u5, .own ((grownL more).map llD), .own ((B).map llD), .no], w1⟩) (fun o : List Int => ⟨[.raw (.ref pa), .val (.list ((f).map llD)), .val (.list ((more).map .int)), .val (.list ((S).map .int)), .val (.list ((A).map llD)), .val (llD o), .own ((grownL more).map llD), .own ((B).map llD), .no], w1⟩) (fun _ => false) llD (f := llD) (l := A) (s1 := ⟨[.raw (.ref pa), .val (.list ((f).map llD)), .val (.list ((more).map .int)), .val (.list ((S).map .int)), .val (.list ((A).map llD)), u5, .own ((grownL more).map llD), .own ((B).map llD), .no], w1⟩) (by simp -implicitDefEqProofs) (by omega) no5' (fun a _ => by rfl) (fun a _ => by rfl) (fun o ho => by
      have hx := x_notInLL (x := cutL o S) (a := B)
      have hc := cut_down_ok (w := w1) (rA o ho) S0 S1 (fun x hx => (mA o ho _ hm0).1.mem_iff.mp (Sr _ hm0 x hx))
      have hb := mB o ho
      have hx : notInO (.list ((cutL o S).map .int)) (.list (B.map llD)) = some (.val (.bool (decide (¬ cutL o S ∈ B)))) := hx
      unfold t_law_told_v4_6
      simp -implicitDefEqProofs [llD, hc, hx, hb]) (fun o ho z => by cases z)
    rw [e0] at this
    exact this
  refine ⟨w1, ?_, q1.mono (by omega)⟩
  have hs : leS (f.length + 1) := size_le (by omega)
  have hs2 : leS (f.length + min 1 f.length) := size_le (by omega)
  have cut : cutD (f.map llD) none (some 1) = (f.take 1).map llD := by
    rw [cutD_map]
    congr 1
    exact cut_to (k := 1)
  have eap : f.map llD ++ (f.take 1).map llD = (f ++ f.take 1).map llD := by rw [List.map_append]
  have tA := fun w => all_lines_ok (w := w) hf
  have tc := fun w => common_ok (w := w) hf
  rw [← hA] at tA tc
  obtain ⟨T, hT⟩ : ∃ T, T = f.take 1 := ⟨_, rfl⟩
  have lT : T.length = min 1 f.length := by rw [hT, List.length_take]
  rw [← hT] at cut e1 eap
  rw [← eap] at e1
  unfold F_law_told_v4 p_law_told_v4
  simp only [x_runF]
  simp -implicitDefEqProofs [tA, tc, q1n, e5, lines_of_ok rmo, hs]
  simp -implicitDefEqProofs [t1, e4, q2n, cut, lT, hs2, e1, t2, q1n, e6, t3, e7]
theorem law_k14_ok : LawOk 10 p_law_k14 := by
  intro a pa ca cells ne hc hl
  have w0 : WP pa (some (pa, ca, cells, 0)) 0 := ⟨ca, cells, 0, rfl, hc, by decide, by decide⟩
  obtain ⟨s', e, v2, v3, v4, v5, v6, v7, w', hw, rfl⟩ := loopN (b := bName 2) (p := b_law_k14_4) (f := fun (k : Nat) => PyData.int (k : Int)) (l := List.range 3) (s := ⟨[.raw (.ref a), .raw (.ref pa), .no, .no, .no, .no, .no, .no, .no, .no], some (pa, ca, cells, 0)⟩)
    (fun i s => ∃ (v2 v3 v4 v5 v6 v7 : Sl) (w : Pw), WP pa w (10000000 * i) ∧ s = ⟨[.raw (.ref a), .raw (.ref pa), v2, v3, v4, v5, v6, v7, .no, .no], w⟩) ⟨_, _, _, _, _, _, _, by simpa using w0, rfl⟩ (by
      rintro i x s hi hx ⟨v2, v3, v4, v5, v6, v7, w, hw, rfl⟩
      obtain ⟨rfl, hi4⟩ := range_at hi
      obtain ⟨r1, w1, e1, a1, b1, q1⟩ := draw_ok (n := 7) hw (by omega) (by omega) (by omega)
      obtain ⟨n, hn⟩ : ∃ n : Nat, 2 + r1 = n := ⟨(2 + r1).toNat, by omega⟩
      obtain ⟨N, w2, e2, lN, dN, q2⟩ := names_ok2 (n := n) q1 (by omega) (by omega)
      obtain ⟨L, w3, e3, p3, q3⟩ := mixedI_ok (ns := N) q2 (by omega) (by omega)
      have nL : Names L := dN.perm p3
      have l3 := p3.length_eq
      have rL : Rank L := ⟨nL.1, fun x hx => (nL.2 x hx).1, by omega, by omega⟩
      obtain ⟨r4, w4, e4, a4, b4, q4⟩ := draw_ok (n := 5) q3 (by omega) (by omega) (by omega)
      obtain ⟨h, hh⟩ : ∃ h : Nat, 1 + r4 = h := ⟨(1 + r4).toNat, by omega⟩
      have hB : inB (h : Int) := inB_of (by omega) (by omega)
      obtain ⟨out, s5, e5, f, w5, rfl, hf, lf, q5, rfl⟩ := lc_s (s := ⟨[.raw (.ref a), .raw (.ref pa), .val (.int (x)), .own (L.map .int), v4, v5, v6, v7, .no, .no], w3⟩) (s0 := ⟨[.raw (.ref a), .raw (.ref pa), .val (.int (x)), .own (L.map .int), v4, v5, v6, v7, .no, .no], w4⟩)
        (fi := fRng1 (pCons (fOp (lift2 addO) (fC (.int 1)) (fUser F_law_draw (fCons (fVar 1) (fCons (fC (.int 5)) fNil)))) fNil)) (b := bName 8) (ft := fYes) (fe := e_law_k14_1) (vs := [8]) (f := fun (k : Nat) => PyData.int (k : Int)) (l := List.range h)
        (fun j acc s => ∃ (f : List (List Int)) (w : Pw), acc = f.map llD ∧ (∀ r ∈ f, r.Perm L) ∧ f.length = j ∧ WP pa w (10000000 * x + 100000 + 10000 * j) ∧ s = ⟨[.raw (.ref a), .raw (.ref pa), .val (.int (x)), (match j with | 0 => .own (L.map .int) | _ + 1 => .val (.list ((L).map .int))), v4, v5, v6, v7, .no, .no], w⟩)
        (by simp -implicitDefEqProofs [e4, hh, hB, range_D]) (by simp; omega) ⟨[], w4, rfl, by simp, rfl, q4.mono (by omega), rfl⟩ (by
          rintro j k hj acc s ⟨f, w, rfl, hf, lf, q, rfl⟩
          obtain ⟨_, hj2⟩ := range_at hj
          obtain ⟨r, w6, e6, p6, q6⟩ := falling_ok q (by omega) (L := L) (by omega)
          have qn : WP pa w6 (10000000 * (x : Int) + 100000 + 10000 * ((j + 1 : Nat) : Int)) := q6.mono (by omega)
          have hf2 : ∀ z ∈ f ++ [r], z.Perm L := fun z hz => by
            rcases List.mem_append.mp hz with h | h
            · exact hf z h
            · rw [List.mem_singleton.mp h]; exact p6
          cases j with
          | zero => exact ⟨rfl, ⟨[.raw (.ref a), .raw (.ref pa), .val (.int (x)), .own (L.map .int), v4, v5, v6, v7, .val (.int ((k : Nat) : Int)), .no], w⟩, rfl, true, _, rfl, fun z => (by cases z), fun _ => ⟨llD r, ⟨[.raw (.ref a), .raw (.ref pa), .val (.int (x)), .val (.list ((L).map .int)), v4, v5, v6, v7, .val (.int ((k : Nat) : Int)), .no], w6⟩, by unfold e_law_k14_1; simp -implicitDefEqProofs [e6, llD], f ++ [r], w6, by simp, hf2, by simp [lf], qn, rfl⟩⟩
          | succ j => exact ⟨rfl, ⟨[.raw (.ref a), .raw (.ref pa), .val (.int (x)), .val (.list ((L).map .int)), v4, v5, v6, v7, .val (.int ((k : Nat) : Int)), .no], w⟩, rfl, true, _, rfl, fun z => (by cases z), fun _ => ⟨llD r, ⟨[.raw (.ref a), .raw (.ref pa), .val (.int (x)), .val (.list ((L).map .int)), v4, v5, v6, v7, .val (.int ((k : Nat) : Int)), .no], w6⟩, by unfold e_law_k14_1; simp -implicitDefEqProofs [e6, llD], f ++ [r], w6, by simp, hf2, by simp [lf], qn, rfl⟩⟩)
      rw [List.length_range] at lf q5 e5
      have e5 : l_law_k14_1 ⟨[.raw (.ref a), .raw (.ref pa), .val (.int (x)), .own (L.map .int), v4, v5, v6, v7, .no, .no], w3⟩ = .ok (.new (f.map llD)) ⟨[.raw (.ref a), .raw (.ref pa), .val (.int (x)), .val (.list ((L).map .int)), v4, v5, v6, v7, .no, .no], w5⟩ := by
        obtain ⟨h', rfl⟩ : ∃ h', h = h' + 1 := ⟨h - 1, by omega⟩
        exact e5
      obtain ⟨r6, w6, e6, a6, b6, q6⟩ := draw_ok (n := 4) q5 (by omega) (by omega) (by omega)
      obtain ⟨g, w7, e7, hg, lg, q7⟩ : ∃ (g : List (List Int)) (w7 : Pw), ((r6 = 0 ∧ ∃ mx : List Int, F_law_mixed [.raw (.ref pa), .val (.list ((L).map .int))] w6 = .ok (.new (mx.map .int)) w7 ∧ ixN f.length 0 = some 0 ∧ (f.map llD).set 0 (.list (mx.map .int)) = g.map llD) ∨ (r6 ≠ 0 ∧ g = f ∧ w7 = w6)) ∧ (∀ r ∈ g, r.Perm L) ∧ g.length = h ∧ WP pa w7 (10000000 * x + 200000) := by
        by_cases hr : r6 = 0
        · obtain ⟨mx, w7, e7, p7, q7⟩ := mixedI_ok (ns := L) q6 (by omega) (by omega)
          have ix : ixN f.length 0 = some 0 := ix_0 (by omega)
          have em : (f.map llD).set 0 (.list (mx.map .int)) = (f.set 0 mx).map llD := by rw [List.map_set]; rfl
          refine ⟨f.set 0 mx, w7, .inl ⟨hr, mx, e7, ix, em⟩, fun z hz => ?_, by simp [lf], q7.mono (by omega)⟩
          · rcases List.mem_or_eq_of_mem_set hz with h | rfl
            · exact hf z h
            · exact p7
        · exact ⟨f, w6, .inr ⟨hr, rfl, rfl⟩, hf, lf, q6.mono (by omega)⟩
      obtain ⟨m1, w8, e8, p8, q8⟩ := falling_ok q7 (by omega) (L := L) (by omega)
      obtain ⟨m2, w9, e9, p9, q9⟩ := mixedI_ok (ns := L) q8 (by omega) (by omega)
      obtain ⟨r10, w10, e10, a10, b10, q10⟩ := draw_ok (n := 2) q9 (by omega) (by omega) (by omega)
      obtain ⟨mo, emo, pmo⟩ : ∃ mo : List Int, atI [PyData.list (m1.map .int), .list (m2.map .int)] r10 = some (.list (mo.map .int)) ∧ mo.Perm L := by
        have : r10 = 0 ∨ r10 = 1 := by omega
        rcases this with rfl | rfl
        · exact ⟨m1, by simp, p8⟩
        · exact ⟨m2, by simp, p9⟩
      obtain ⟨out, w11, e11, zs, hz, hzs, hzl, q11⟩ := lc_w (s := ⟨[.raw (.ref a), .raw (.ref pa), .val (.int (x)), .val (.list ((L).map .int)), .own ((g).map llD), .val (.list ((mo).map .int)), v6, v7, .no, .no], w10⟩) (d := [.raw (.ref a), .raw (.ref pa), .val (.int (x)), .val (.list ((L).map .int)), .own ((g).map llD), .val (.list ((mo).map .int)), v6, v7, .no, .no]) (w := w10)
        (fi := fLstI (fVar 3)) (b := bName 9) (ft := t_law_k14_2) (fe := e_law_k14_3) (vs := [9]) (f := .int) (l := L) (fun y : Int => [.raw (.ref a), .raw (.ref pa), .val (.int (x)), .val (.list ((L).map .int)), .own ((g).map llD), .val (.list ((mo).map .int)), v6, v7, .no, .val (.int (y))])
        (fun j acc w => ∃ zs : List Int, acc = zs.map .int ∧ (∀ z ∈ zs, z ∈ L) ∧ zs.length ≤ j ∧ WP pa w (10000000 * x + 300000 + j)) (by simp -implicitDefEqProofs) (by omega) rfl ⟨[], rfl, by simp, by simp, q10.mono (by omega)⟩ (by
          rintro j y hj acc w ⟨zs, rfl, h1, h2, q⟩
          have hy := List.mem_of_getElem? hj
          have hjl := (List.getElem?_eq_some_iff.mp hj).1
          obtain ⟨r, w7, e7, a7, b7, q7⟩ := draw_ok (n := 2) q (by omega) (by omega) (by omega)
          have qn : WP pa w7 (10000000 * (x : Int) + 300000 + ((j + 1 : Nat) : Int)) := q7.mono (by omega)
          refine ⟨by rfl, by rfl, decide (r = 0), w7, ?_, fun _ => ⟨zs, rfl, h1, by omega, qn⟩, fun _ => ⟨.int y, w7, ?_, zs ++ [y], by simp, ?_, by simp; omega, qn⟩⟩
          · unfold t_law_k14_2
            simp -implicitDefEqProofs [e7]
          · unfold e_law_k14_3
            simp -implicitDefEqProofs
          · intro z hz
            simp at hz
            rcases hz with hz | rfl
            · exact h1 z hz
            · exact hy)
      subst hz
      obtain ⟨D, hD⟩ : ∃ D, D = L.drop (L.length - 1) := ⟨_, rfl⟩
      have lD : D.length = 1 := by rw [hD, List.length_drop]; omega
      have cut : cutI L (some (-1)) none = D := by rw [hD]; exact cut_last (by omega)
      obtain ⟨U, hU⟩ : ∃ U, U = zs ++ D := ⟨_, rfl⟩
      have em : zs.map PyData.int ++ D.map PyData.int = U.map .int := by rw [hU, List.map_append]
      have hlz : leS (zs.length + D.length) := size_le (by omega)
      have Us : ∀ z ∈ U, z ∈ L := by
        intro z hz
        rw [hU] at hz
        rcases List.mem_append.mp hz with h | h
        · exact hzs z h
        · rw [hD] at h; exact List.mem_of_mem_drop h
      have U0 : U ≠ [] := by
        intro z
        have h1 : U.length = zs.length + D.length := by rw [hU, List.length_append]
        rw [z, lD] at h1
        exact absurd h1 (by simp)
      have Ul : U.length ≤ 20 := by rw [hU, List.length_append]; omega
      have fg : Folk g := folk_of3 rL (by omega) (by omega) hg
      obtain ⟨T, hT⟩ : ∃ T, strO (.list [.list (g.map llD), .list (mo.map .int), .list (U.map .int)]) = some (.val (.str T)) := by
        refine ⟨_, strO_list ?_ ?_ ?_⟩
        · have h1 := small_ll (f := g) fun r hr => nL.perm (hg r hr)
          have h2 : smallA (U.map .int) = true := smallA_ints fun z hz => by
            have := nL.2 z (Us z hz)
            have e : (100000000000000000000000000000000000 : Nat) ≤ 10 ^ 90 := by decide +kernel
            have : z.natAbs < 100000000000000000000000000000000000 := by omega
            exact Nat.lt_of_lt_of_le this e
          simp [h1, h2, (nL.perm pmo).small]
        · have h1 := wgt_ll (f := g) fun r hr => by have := (hg r hr).length_eq; omega
          have := pmo.length_eq
          simp
          omega
        · have := dep_ll (ls := g)
          simp
          omega
      obtain ⟨w12, e12, q12⟩ := told14_ok q11 (by omega) fg (by omega) (fun q hq => pmo.trans (hg q hq).symm) U0 (by omega) fun z hz => pmo.mem_iff.mpr (Us z hz)
      have fin : WP pa w12 (10000000 * (x + 1)) := q12.mono (by omega)
      unfold b_law_k14_4
      rcases e7 with ⟨hr, mx, e7, ix, em2⟩ | ⟨hr, rfl, rfl⟩
      · simp -implicitDefEqProofs [e1, hn, e2, e3, e5, e6, hr, e7, ix, em2, e8, e9, e10, emo, e11, cutD_map, cut, em, hlz, hT, e12]
        exact fin
      · simp -implicitDefEqProofs [e1, hn, e2, e3, e5, e6, hr, e8, e9, e10, emo, e11, cutD_map, cut, em, hlz, hT, e12]
        exact fin)
  unfold p_law_k14
  simp -implicitDefEqProofs [rangeD, e]

end DL

noncomputable section
namespace DL
open PySem L2
def e_law_folk_1 : M R := fUser F_law_falling (fCons (fVar 0) (fCons (fVar 1) fNil))
abbrev l_law_folk_1 : M R := fLc (fRng1 (pCons (fVar 3) fNil)) (bName 5) fYes (e_law_folk_1) [5]
def e_law_folk_2 : M R := fUser F_law_mixed (fCons (fVar 0) (fCons (fVar 1) fNil))
abbrev l_law_folk_2 : M R := fLc (fLstI (fVar 4)) (bName 5) fYes (e_law_folk_2) [5]
def p_law_folk : DSt → Flow := fseq (fSet 2 (fUser F_law_draw (fCons (fVar 0) (fCons (fC (.int 4)) fNil)))) (fseq (fSet 3 (fOp (lift2 ixO) (fLst (fCons (fOp (lift2 addO) (fC (.int 1)) (fUser F_law_draw (fCons (fVar 0) (fCons (fC (.int 6)) fNil)))) (fCons (fC (.int 20)) fNil))) (fOp (lift2 fdivO) (fUser F_law_draw (fCons (fVar 0) (fCons (fC (.int 8)) fNil))) (fC (.int 7))))) (fseq (fSet 4 (fLc (fRng1 (pCons (fVar 3) fNil)) (bName 5) fYes (e_law_folk_1) [5])) (fseq (fIfS (fB (fOp (lift2 eqO) (fVar 2) (fC (.int 1)))) (fSetIx 4 (fUser F_law_mixed (fCons (fVar 0) (fCons (fVar 1) fNil))) (fUser F_law_draw (fCons (fVar 0) (fCons (fVar 3) fNil)))) fnext) (fseq (fIfS (fAnd (fB (fOp (lift2 eqO) (fVar 2) (fC (.int 2)))) (fB (fOp (lift2 ltO) (fVar 3) (fC (.int 20))))) (fSet 4 (fLc (fLstI (fVar 4)) (bName 5) fYes (e_law_folk_2) [5])) fnext) (fRet (fVar 4))))))
def F_law_folk : List R → Pw → FRes := runF 6 2 p_law_folk
def e_law_k12_1 : M R := fUser F_law_falls (fCons (fVar 9) (fCons (fVar 10) fNil))
abbrev l_law_k12_1 : M R := fLc (fLstI (fVar 5)) (bName 10) fYes (e_law_k12_1) [10]
def t_law_k12_2 : M Bool := fB (fOp (lift2 notInO) (fC (.bool false)) (fLc (fLstI (fVar 5)) (bName 10) fYes (e_law_k12_1) [10]))
def e_law_k12_3 : M R := fVar 9
abbrev l_law_k12_3 : M R := fLc (fLstI (fUser F_law_lines (fCons (fOp (lift2 ixO) (fVar 5) (fC (.int 0))) fNil))) (bName 9) (t_law_k12_2) (e_law_k12_3) [9]
def e_law_k12_4 : M R := fCall listO (pCons (fVar 10) fNil)
abbrev l_law_k12_4 : M R := fLc (fLstI (fVar 5)) (bName 10) fYes (e_law_k12_4) [10]
def e_law_k12_5 : M R := fCall lenO (pCons (fVar 9) fNil)
abbrev l_law_k12_5 : M R := fLc (fLstI (fVar 8)) (bName 9) fYes (e_law_k12_5) [9]
def n_law_k12_6 : DSt → Flow := fseq (vwIf (fOr (fNot (fB (fIsi "list" (fVar 8)))) (fOr (fB (fOp (lift2 neO) (fVar 8) (fVar 6))) (fB (fOp (lift2 neO) (fVar 7) (fVar 5))))) (fRet (fC (.bool false)))) (fseq (nForA 8 9 (.int (-7))) (vwIf (fOr (fB (fOp (lift2 neO) (fLc (fLstI (fVar 8)) (bName 9) fYes (e_law_k12_5) [9]) (fOp (lift2 mulO) (fLst (fCons (fOp (lift2 addO) (fVar 3) (fC (.int 1))) fNil)) (fCall lenO (pCons (fVar 6) fNil))))) (fB (fOp (lift2 neO) (fVar 7) (fVar 5)))) (fRet (fC (.bool false)))))
abbrev o_law_k12_6 : DSt → Flow := fNB 8 [6, 7, 5] (fUser F_all_linesD (fCons (fVar 7) fNil)) n_law_k12_6
def b_law_k12_7 : DSt → Flow := fseq (fSet 3 (fOp (lift2 ixO) (fLst (fCons (fOp (lift2 addO) (fC (.int 1)) (fUser F_law_draw (fCons (fVar 1) (fCons (fC (.int 7)) fNil)))) (fCons (fUser F_law_many (fCons (fVar 1) fNil)) fNil))) (fOp (lift2 fdivO) (fUser F_law_draw (fCons (fVar 1) (fCons (fC (.int 4)) fNil))) (fC (.int 3))))) (fseq (fSet 4 (fUser F_law_mixed (fCons (fVar 1) (fCons (fUser F_law_names (fCons (fVar 1) (fCons (fVar 3) fNil))) fNil)))) (fseq (fSet 5 (fUser F_law_folk (fCons (fVar 1) (fCons (fVar 4) fNil)))) (fseq (fSet 6 (fLc (fLstI (fUser F_law_lines (fCons (fOp (lift2 ixO) (fVar 5) (fC (.int 0))) fNil))) (bName 9) (t_law_k12_2) (e_law_k12_3) [9])) (fseq (fSet 7 (fLc (fLstI (fVar 5)) (bName 10) fYes (e_law_k12_4) [10])) (fNB 8 [6, 7, 5] (fUser F_all_linesD (fCons (fVar 7) fNil)) n_law_k12_6)))))
abbrev o_law_k12_7 : List PyData → DSt → Flow := loopF (bName 2) b_law_k12_7
def p_law_k12 : DSt → Flow := fseq (fFor (fRng1 (pCons (fC (.int 3)) fNil)) (bName 2) b_law_k12_7) (fRet (fC (.bool true)))
def F_law_k12 : List R → Pw → FRes := runF 11 1 p_law_k12
theorem notIn_bools {α : Type} {l : List α} {b : α → Bool} : notInO (.bool false) (.list (l.map fun r => .bool (b r))) = some (.val (.bool (l.all b))) := by
  unfold notInO
  simp only [items]
  rw [if_pos]
  · congr 3
    induction l with
    | nil => rfl
    | cons a l ih =>
      simp only [List.map_cons, List.any_cons, List.all_cons]
      rw [Bool.not_or, ih]
      congr 1
      cases b a <;> rfl
  · have : PyData.depthAll (l.map fun r => PyData.bool (b r)) ≤ 0 := by
      rw [depthAll_le]
      intro x hx
      obtain ⟨_, _, rfl⟩ := List.mem_map.mp hx
      simp
    simp
theorem folk12_ok {pa : Addr} {w : Pw} {m : Int} {L : List Int} (h : WP pa w m) (hm : m < 2 ^ 58) (hl : L.length ≤ 100) : ∃ (f : List (List Int)) (w' : Pw), F_law_folk [.raw (.ref pa), .val (.list ((L).map .int))] w = .ok (.new (f.map llD)) w' ∧ 0 < f.length ∧ f.length ≤ 20 ∧ (∀ r ∈ f, r.Perm L) ∧ WP pa w' (m + 2000000) := by
  obtain ⟨r1, w1, e1, a1, b1, q1⟩ := draw_ok (n := 4) h (by omega) (by omega) (by omega)
  obtain ⟨r2, w2, e2, a2, b2, q2⟩ := draw_ok (n := 6) q1 (by omega) (by omega) (by omega)
  obtain ⟨r3, w3, e3, a3, b3, q3⟩ := draw_ok (n := 8) q2 (by omega) (by omega) (by omega)
  obtain ⟨H, eH, h1, h20⟩ : ∃ H : Nat, atI [PyData.int (1 + r2), .int 20] (r3 / 7) = some (.int (H : Int)) ∧ 0 < H ∧ H ≤ 20 := by
    have : r3 / 7 = 0 ∨ r3 / 7 = 1 := by omega
    rcases this with q | q <;> rw [q]
    · refine ⟨(1 + r2).toNat, ?_, by omega, by omega⟩
      have : (((1 + r2).toNat : Nat) : Int) = 1 + r2 := by omega
      rw [this]
      rfl
    · exact ⟨20, rfl, by omega, by omega⟩
  have hfd : fdivO (.int r3) (.int 7) = some (.val (.int (r3 / 7))) := by rw [fdiv_ok (by omega) (by omega)]
  obtain ⟨out, w4, e4, f, hf, hfp, hfl, q4⟩ := lc_w (s := ⟨[.raw (.ref pa), .val (.list ((L).map .int)), .val (.int (r1)), .val (.int ((H : Nat) : Int)), .no, .no], w3⟩) (d := [.raw (.ref pa), .val (.list ((L).map .int)), .val (.int (r1)), .val (.int ((H : Nat) : Int)), .no, .no]) (w := w3)
    (fi := fRng1 (pCons (fVar 3) fNil)) (b := bName 5) (ft := fYes) (fe := e_law_folk_1) (vs := [5]) (f := fun (k : Nat) => PyData.int (k : Int)) (l := List.range H) (fun y : Nat => [.raw (.ref pa), .val (.list ((L).map .int)), .val (.int (r1)), .val (.int ((H : Nat) : Int)), .no, .val (.int ((y : Nat) : Int))])
    (fun j acc w => ∃ f : List (List Int), acc = f.map llD ∧ (∀ r ∈ f, r.Perm L) ∧ f.length = j ∧ WP pa w (m + 30 + 5000 * j)) (by
      have hi : inB (H : Int) := inB_of (by omega) (by omega)
      simp -implicitDefEqProofs [hi]
      exact (range_D H).symm) (by simp; omega) rfl ⟨[], rfl, by simp, by simp, q3.mono (by omega)⟩ (by
      rintro j y hj acc w ⟨f, rfl, h1, h2, q⟩
      obtain ⟨rfl, hjl⟩ := range_at hj
      obtain ⟨r, w7, e7, p7, q7⟩ := falling_ok (L := L) q (by omega) (by omega)
      refine ⟨by rfl, by rfl, true, w, by rfl, fun z => (by cases z), fun _ => ⟨llD r, w7, ?_, f ++ [r], by simp, ?_, by simp [h2], q7.mono (by omega)⟩⟩
      · unfold e_law_folk_1
        simp -implicitDefEqProofs [e7, llD]
      · intro z hz
        simp at hz
        rcases hz with hz | rfl
        · exact h1 z hz
        · exact p7)
  subst hf
  simp only [List.length_range] at hfl q4
  -- one of them any
  obtain ⟨f2, w5, s2, fp2, fl2, q5⟩ : ∃ (f2 : List (List Int)) (w5 : Pw), fIfS (fB (fOp (lift2 eqO) (fVar 2) (fC (.int 1)))) (fSetIx 4 (fUser F_law_mixed (fCons (fVar 0) (fCons (fVar 1) fNil))) (fUser F_law_draw (fCons (fVar 0) (fCons (fVar 3) fNil)))) fnext ⟨[.raw (.ref pa), .val (.list ((L).map .int)), .val (.int (r1)), .val (.int ((H : Nat) : Int)), .own (f.map llD), .no], w4⟩ = .next ⟨[.raw (.ref pa), .val (.list ((L).map .int)), .val (.int (r1)), .val (.int ((H : Nat) : Int)), .own (f2.map llD), .no], w5⟩ ∧ (∀ r ∈ f2, r.Perm L) ∧ f2.length = H ∧ WP pa w5 (m + 200000) := by
    by_cases c1 : r1 = 1
    · obtain ⟨M, w5, e5, p5, q5⟩ := mixedI_ok (ns := L) q4 (by omega) (by omega)
      obtain ⟨r6, w6, e6, a6, b6, q6⟩ := draw_ok (n := H) q5 (by omega) (by omega) (by omega)
      obtain ⟨k, rfl⟩ := Int.eq_ofNat_of_zero_le a6
      have hk : k < f.length := by omega
      have hix : ixN f.length (k : Int) = some k := ixN_ok hk
      have hs : (f.map llD).set k (.list (M.map .int)) = (f.set k M).map llD := by
        rw [List.map_set]
        rfl
      refine ⟨f.set k M, w6, ?_, ?_, by rw [List.length_set]; exact hfl, q6.mono (by omega)⟩
      · simp -implicitDefEqProofs [c1, e5, e6, hix, hs]
      · intro r hr
        rcases List.mem_or_eq_of_mem_set hr with hr | rfl
        · exact hfp r hr
        · exact p5
    · refine ⟨f, w4, ?_, hfp, hfl, q4.mono (by omega)⟩
      simp -implicitDefEqProofs [c1]
  obtain ⟨f3, w6, s3, fp3, fl3, q6⟩ : ∃ (f3 : List (List Int)) (w6 : Pw), fIfS (fAnd (fB (fOp (lift2 eqO) (fVar 2) (fC (.int 2)))) (fB (fOp (lift2 ltO) (fVar 3) (fC (.int 20))))) (fSet 4 (fLc (fLstI (fVar 4)) (bName 5) fYes (e_law_folk_2) [5])) fnext ⟨[.raw (.ref pa), .val (.list ((L).map .int)), .val (.int (r1)), .val (.int ((H : Nat) : Int)), .own (f2.map llD), .no], w5⟩ = .next ⟨[.raw (.ref pa), .val (.list ((L).map .int)), .val (.int (r1)), .val (.int ((H : Nat) : Int)), .own (f3.map llD), .no], w6⟩ ∧ (∀ r ∈ f3, r.Perm L) ∧ f3.length = H ∧ WP pa w6 (m + 400000) := by
    have hd20 : ((H : Int) < 20) ↔ H < 20 := by omega
    by_cases c1 : r1 = 2 ∧ H < 20
    · obtain ⟨c1a, c1b⟩ := c1
      obtain ⟨out, w6, e6, f, hf, hfp, hfl, q6⟩ := lc_w (s := ⟨[.raw (.ref pa), .val (.list ((L).map .int)), .val (.int (r1)), .val (.int ((H : Nat) : Int)), .own (f2.map llD), .no], w5⟩) (d := [.raw (.ref pa), .val (.list ((L).map .int)), .val (.int (r1)), .val (.int ((H : Nat) : Int)), .val (.list (f2.map llD)), .no]) (w := w5)
        (fi := fLstI (fVar 4)) (b := bName 5) (ft := fYes) (fe := e_law_folk_2) (vs := [5]) (f := llD) (l := f2) (fun y : List Int => [.raw (.ref pa), .val (.list ((L).map .int)), .val (.int (r1)), .val (.int ((H : Nat) : Int)), .val (.list (f2.map llD)), .val (llD y)])
        (fun j acc w => ∃ f : List (List Int), acc = f.map llD ∧ (∀ r ∈ f, r.Perm L) ∧ f.length = j ∧ WP pa w (m + 200000 + 5000 * j)) (by simp -implicitDefEqProofs) (by omega) rfl ⟨[], rfl, by simp, by simp, q5.mono (by omega)⟩ (by
          rintro j y hj acc w ⟨f, rfl, h1, h2, q⟩
          have hjl := (List.getElem?_eq_some_iff.mp hj).1
          obtain ⟨r, w7, e7, p7, q7⟩ := mixedI_ok (ns := L) q (by omega) (by omega)
          refine ⟨by rfl, by rfl, true, w, by rfl, fun z => (by cases z), fun _ => ⟨llD r, w7, ?_, f ++ [r], by simp, ?_, by simp [h2], q7.mono (by omega)⟩⟩
          · unfold e_law_folk_2
            simp -implicitDefEqProofs [e7, llD]
          · intro z hz
            simp at hz
            rcases hz with hz | rfl
            · exact h1 z hz
            · exact p7)
      subst hf
      refine ⟨f, w6, ?_, hfp, by omega, q6.mono (by omega)⟩
      rw [c1a] at e6 ⊢
      simp -implicitDefEqProofs [hd20, c1b, e6]
    · refine ⟨f2, w5, ?_, fp2, fl2, q5.mono (by omega)⟩
      by_cases c2 : r1 = 2
      · have c3 : ¬ H < 20 := fun z => c1 ⟨c2, z⟩
        simp -implicitDefEqProofs [c2, hd20, c3]
      · simp -implicitDefEqProofs [c2]
  refine ⟨f3, w6, ?_, by omega, by omega, fp3, q6.mono (by omega)⟩
  unfold F_law_folk p_law_folk
  simp only [x_runF, x_seq]
  have s1 : fSet 2 (fUser F_law_draw (fCons (fVar 0) (fCons (fC (.int 4)) fNil))) ⟨[.raw (.ref pa), .val (.list ((L).map .int)), .no, .no, .no, .no], w⟩ = .next ⟨[.raw (.ref pa), .val (.list ((L).map .int)), .val (.int (r1)), .no, .no, .no], w1⟩ := by simp -implicitDefEqProofs [e1]
  have s1b : fSet 3 (fOp (lift2 ixO) (fLst (fCons (fOp (lift2 addO) (fC (.int 1)) (fUser F_law_draw (fCons (fVar 0) (fCons (fC (.int 6)) fNil)))) (fCons (fC (.int 20)) fNil))) (fOp (lift2 fdivO) (fUser F_law_draw (fCons (fVar 0) (fCons (fC (.int 8)) fNil))) (fC (.int 7)))) ⟨[.raw (.ref pa), .val (.list ((L).map .int)), .val (.int (r1)), .no, .no, .no], w1⟩ = .next ⟨[.raw (.ref pa), .val (.list ((L).map .int)), .val (.int (r1)), .val (.int ((H : Nat) : Int)), .no, .no], w3⟩ := by simp -implicitDefEqProofs [e2, e3, hfd, eH]
  have s1c : fSet 4 (fLc (fRng1 (pCons (fVar 3) fNil)) (bName 5) fYes (e_law_folk_1) [5]) ⟨[.raw (.ref pa), .val (.list ((L).map .int)), .val (.int (r1)), .val (.int ((H : Nat) : Int)), .no, .no], w3⟩ = .next ⟨[.raw (.ref pa), .val (.list ((L).map .int)), .val (.int (r1)), .val (.int ((H : Nat) : Int)), .own (f.map llD), .no], w4⟩ := by simp -implicitDefEqProofs [e4]
  simp only [List.map_cons, List.map_nil, x_toSl_raw, x_toSl_val, List.replicate, List.cons_append, List.nil_append, List.length_cons, List.length_nil]
  rw [if_pos (by decide)]
  simp only [s1, s1b, s1c, s2, s3, at_next, x_seq]
  simp -implicitDefEqProofs
theorem appAll_ll {A : List (List Int)} (h : ∀ ℓ ∈ A, ℓ.length ≤ 10) : appAll (.int (-7)) (A.map llD) = some (A.map apD) := by
  induction A with
  | nil => rfl
  | cons a A ih =>
    have hl : ltS (a.map PyData.int).length := size_lt (by have := h a List.mem_cons_self; simp; omega)
    have e : llD a = .list (a.map .int) := rfl
    rw [List.map_cons, e]
    unfold appAll
    rw [if_pos hl, ih fun ℓ hℓ => h ℓ (List.mem_cons_of_mem _ hℓ)]
    simp [apD]
theorem rep_one (d : PyData) : ∀ l : List (List Int), (List.replicate l.length [d]).flatten = l.map fun _ => d
  | [] => rfl
  | b :: l => by simp [List.replicate_succ, rep_one d l]
theorem ne_const {A : List (List Int)} {k : Int} : neO (.list (A.map fun _ => PyData.int k)) (.list (A.map fun _ => PyData.int k)) = some (.val (.bool false)) := by
  have e : (A.map fun _ => PyData.int k) = (A.map fun _ => k).map .int := by rw [List.map_map]; rfl
  rw [e]
  obtain ⟨M, hM⟩ : ∃ M, M = A.map fun _ => k := ⟨_, rfl⟩
  rw [← hM]
  simp
/-- own at first, then known -/
def ov1 (j : Nat) (ds : List PyData) : Sl := match j with
  | 0 => .own ds
  | _ + 1 => .val (.list ds)
theorem law_k12_ok : LawOk 11 p_law_k12 := by
  intro a pa ca cells ne hc hl
  have w0 : WP pa (some (pa, ca, cells, 0)) 0 := ⟨ca, cells, 0, rfl, hc, by decide, by decide⟩
  obtain ⟨s', e, v2, v3, v4, v5, v6, v7, w', hw, rfl⟩ := loopN (b := bName 2) (p := b_law_k12_7) (f := fun (k : Nat) => PyData.int (k : Int)) (l := List.range 3) (s := ⟨[.raw (.ref a), .raw (.ref pa), .no, .no, .no, .no, .no, .no, .no, .no, .no], some (pa, ca, cells, 0)⟩)
    (fun i s => ∃ (v2 v3 v4 v5 v6 v7 : Sl) (w : Pw), WP pa w (10000000 * i) ∧ s = ⟨[.raw (.ref a), .raw (.ref pa), v2, v3, v4, v5, v6, v7, .no, .no, .no], w⟩) ⟨_, _, _, _, _, _, _, by simpa using w0, rfl⟩ (by
      rintro i x s hi hx ⟨v2, v3, v4, v5, v6, v7, w, hw, rfl⟩
      obtain ⟨rfl, hi4⟩ := range_at hi
      obtain ⟨r1, w1, e1, a1, b1, q1⟩ := draw_ok (n := 7) hw (by omega) (by omega) (by omega)
      obtain ⟨n2, w2, e2, c1, c2, q2⟩ := many_ok q1 (by omega)
      obtain ⟨r3, w3, e3, a3, b3, q3⟩ := draw_ok (n := 4) q2 (by omega) (by omega) (by omega)
      obtain ⟨n, en, n1, n10⟩ : ∃ n : Nat, atI [PyData.int (1 + r1), .int (n2 : Int)] (r3 / 3) = some (.int (n : Int)) ∧ 0 < n ∧ n ≤ 10 := by
        have : r3 / 3 = 0 ∨ r3 / 3 = 1 := by omega
        rcases this with q | q <;> rw [q]
        · refine ⟨(1 + r1).toNat, ?_, by omega, by omega⟩
          have : (((1 + r1).toNat : Nat) : Int) = 1 + r1 := by omega
          rw [this]
          rfl
        · exact ⟨n2, rfl, by omega, by omega⟩
      have hfd : fdivO (.int r3) (.int 3) = some (.val (.int (r3 / 3))) := by rw [fdiv_ok (by omega) (by omega)]
      obtain ⟨ns, w4, e4, l4, d4, p4, q4⟩ := names_ok (n := n) q3 (by omega) (by omega)
      obtain ⟨L, w5, e5, p5, q5⟩ := mixedI_ok (ns := ns) q4 (by omega) (by omega)
      have rL : Rank L := Rank.perm ⟨d4, p4, by omega, by omega⟩ p5
      have lL : L.length = n := by rw [p5.length_eq]; exact l4
      obtain ⟨f, w6, e6, f0, f20, fp, q6⟩ := folk12_ok (L := L) q5 (by omega) (by omega)
      have hF := folk_of3 rL f0 f20 fp
      have hm := head_mem f0
      obtain ⟨b, eb⟩ : ∃ b, b = f.headD [] := ⟨_, rfl⟩
      have hm' := hm
      rw [← eb] at hm
      have rb := (hF.2.2 b hm).1
      have b0 := List.length_pos_iff.mp rb.2.2.1
      have e0' : f[0]? = some b := by
        cases f with
        | nil => simp at f0
        | cons c f => rw [eb]; rfl
      have t1 : ∀ w, F_law_lines [.val (.list ((b).map .int))] w = .ok (.new ((grownL b).map llD)) w := fun w => by rw [law_lines_eq]; exact grown_ok b0 rb.2.2.2
      have t2 : ∀ w, F_all_linesD [.val (.list ((f).map llD))] w = .ok (.new ((linesF f).map llD)) w := fun w => all_linesD_ok hF
      have hlin : linesF f = (grownL b).filter fun ℓ => f.all fun r => fallB ℓ r := by unfold linesF; rw [eb]
      have hA : ∀ ℓ ∈ linesF f, ℓ.length = n := fun ℓ h => by
        rw [← ((mem_linesF hF).mp h b hm).1.length_eq, (fp b hm).length_eq, lL]
      have nd : (linesF f).Nodup := by rw [hlin]; exact (grown_nodup rb.1 b0).sublist List.filter_sublist
      have lA := lines_len hF
      have lg : (grownL b).length ≤ 512 := by
        rw [grown_len]
        have : 2 ^ (b.length - 1) ≤ 2 ^ 9 := Nat.pow_le_pow_right (by decide) (by have := rb.2.2.2; omega)
        omega
      have inner : ∀ u5 : Sl, (u5 = .own ((f).map llD) ∨ u5 = .val (.list ((f).map llD))) → ∀ ℓ ∈ grownL b, t_law_k12_2 ⟨[.raw (.ref a), .raw (.ref pa), .val (.int ((x : Nat) : Int)), .val (.int ((n : Nat) : Int)), .val (.list ((L).map .int)), u5, v6, v7, .no, .val (llD ℓ), .no], w6⟩ = .ok (f.all fun r => fallB ℓ r) ⟨[.raw (.ref a), .raw (.ref pa), .val (.int ((x : Nat) : Int)), .val (.int ((n : Nat) : Int)), .val (.list ((L).map .int)), .val (.list ((f).map llD)), v6, v7, .no, .val (llD ℓ), .no], w6⟩ := by
        intro u5 hu ℓ hℓ
        have pℓ := ((mem_grown rb.1 b0).mp hℓ).1
        have e : l_law_k12_1 ⟨[.raw (.ref a), .raw (.ref pa), .val (.int ((x : Nat) : Int)), .val (.int ((n : Nat) : Int)), .val (.list ((L).map .int)), u5, v6, v7, .no, .val (llD ℓ), .no], w6⟩ = .ok (.new (f.map fun r => .bool (fallB ℓ r))) ⟨[.raw (.ref a), .raw (.ref pa), .val (.int ((x : Nat) : Int)), .val (.int ((n : Nat) : Int)), .val (.list ((L).map .int)), .val (.list ((f).map llD)), v6, v7, .no, .val (llD ℓ), .no], w6⟩ := by
          refine lc_all (fun r : List Int => ⟨[.raw (.ref a), .raw (.ref pa), .val (.int ((x : Nat) : Int)), .val (.int ((n : Nat) : Int)), .val (.list ((L).map .int)), .val (.list ((f).map llD)), v6, v7, .no, .val (llD ℓ), .val (llD r)], w6⟩) _ (f := llD) (l := f) (by rcases hu with rfl | rfl <;> simp -implicitDefEqProofs) (by omega) rfl (fun a _ => by rfl) (fun a _ => by rfl) (fun r hr => ?_)
          unfold e_law_k12_1
          simp -implicitDefEqProofs [llD, law_falls_ok (rb.perm pℓ.symm) (((hF.2.2 b hm).2 r hr).trans pℓ)]
        have hb := notIn_bools (l := f) (b := fun r => fallB ℓ r)
        unfold t_law_k12_2
        simp -implicitDefEqProofs [e, hb]
      obtain ⟨A, hA'⟩ : ∃ A, A = linesF f := ⟨_, rfl⟩
      obtain ⟨out, s7, e7, hout, rfl⟩ := lc_s (s := ⟨[.raw (.ref a), .raw (.ref pa), .val (.int ((x : Nat) : Int)), .val (.int ((n : Nat) : Int)), .val (.list ((L).map .int)), .own ((f).map llD), v6, v7, .no, .no, .no], w6⟩) (s0 := ⟨[.raw (.ref a), .raw (.ref pa), .val (.int ((x : Nat) : Int)), .val (.int ((n : Nat) : Int)), .val (.list ((L).map .int)), .own ((f).map llD), v6, v7, .no, .no, .no], w6⟩)
        (fi := fLstI (fUser F_law_lines (fCons (fOp (lift2 ixO) (fVar 5) (fC (.int 0))) fNil))) (b := bName 9) (ft := t_law_k12_2) (fe := e_law_k12_3) (vs := [9]) (f := llD) (l := grownL b)
        (fun j acc s => acc = (((grownL b).take j).filter fun ℓ => f.all fun r => fallB ℓ r).map llD ∧ s = ⟨[.raw (.ref a), .raw (.ref pa), .val (.int ((x : Nat) : Int)), .val (.int ((n : Nat) : Int)), .val (.list ((L).map .int)), (ov1 j (f.map llD)), v6, v7, .no, .no, .no], w6⟩)
        (by simp -implicitDefEqProofs [e0', llD, t1]) (by omega) ⟨rfl, rfl⟩ (by
          rintro j ℓ hj acc s ⟨rfl, rfl⟩
          have hℓ := List.mem_of_getElem? hj
          obtain ⟨u5, hu5⟩ : ∃ u5 : Sl, u5 = (ov1 j (f.map llD)) := ⟨_, rfl⟩
          rw [← hu5]
          have hu : (u5 = .own ((f).map llD) ∨ u5 = .val (.list ((f).map llD))) := by
            rw [hu5]
            cases j with
            | zero => exact .inl rfl
            | succ j => exact .inr rfl
          have et := inner u5 hu ℓ hℓ
          rw [take_succ hj, List.filter_append, List.map_append]
          refine ⟨by rfl, _, rfl, _, _, et, fun hk => ⟨?_, rfl⟩, fun hk => ⟨llD ℓ, ⟨[.raw (.ref a), .raw (.ref pa), .val (.int ((x : Nat) : Int)), .val (.int ((n : Nat) : Int)), .val (.list ((L).map .int)), .val (.list ((f).map llD)), v6, v7, .no, .val (llD ℓ), .no], w6⟩, ?_, ?_, rfl⟩⟩
          · rw [List.filter_cons, hk]; simp
          · unfold e_law_k12_3
            simp -implicitDefEqProofs [llD]
          · rw [List.filter_cons, hk]; rfl)
      rw [List.take_length, ← hlin, ← hA'] at hout
      have e7 : l_law_k12_3 ⟨[.raw (.ref a), .raw (.ref pa), .val (.int ((x : Nat) : Int)), .val (.int ((n : Nat) : Int)), .val (.list ((L).map .int)), .own ((f).map llD), v6, v7, .no, .no, .no], w6⟩ = .ok (.new (A.map llD)) ⟨[.raw (.ref a), .raw (.ref pa), .val (.int ((x : Nat) : Int)), .val (.int ((n : Nat) : Int)), .val (.list ((L).map .int)), .val (.list ((f).map llD)), v6, v7, .no, .no, .no], w6⟩ := by
        have h1 : (grownL b).length ≠ 0 := by
          rw [grown_len]
          have := Nat.two_pow_pos (b.length - 1)
          omega
        obtain ⟨k, hk⟩ := Nat.exists_eq_succ_of_ne_zero h1
        rw [hk, hout] at e7
        exact e7
      rw [← hA'] at t2 hA nd lA
      have e8 : l_law_k12_4 ⟨[.raw (.ref a), .raw (.ref pa), .val (.int ((x : Nat) : Int)), .val (.int ((n : Nat) : Int)), .val (.list ((L).map .int)), .val (.list ((f).map llD)), .own ((A).map llD), v7, .no, .no, .no], w6⟩ = .ok (.new (f.map llD)) ⟨[.raw (.ref a), .raw (.ref pa), .val (.int ((x : Nat) : Int)), .val (.int ((n : Nat) : Int)), .val (.list ((L).map .int)), .val (.list ((f).map llD)), .own ((A).map llD), v7, .no, .no, .no], w6⟩ := by
        refine lc_all (fun r : List Int => ⟨[.raw (.ref a), .raw (.ref pa), .val (.int ((x : Nat) : Int)), .val (.int ((n : Nat) : Int)), .val (.list ((L).map .int)), .val (.list ((f).map llD)), .own ((A).map llD), v7, .no, .no, .val (llD r)], w6⟩) _ (f := llD) (l := f) (by simp -implicitDefEqProofs) (by omega) rfl (fun a _ => by rfl) (fun a _ => by rfl) (fun r hr => ?_)
        unfold e_law_k12_4
        simp -implicitDefEqProofs [llD]
      have e9 : l_law_k12_5 ⟨[.raw (.ref a), .raw (.ref pa), .val (.int ((x : Nat) : Int)), .val (.int ((n : Nat) : Int)), .val (.list ((L).map .int)), .val (.list ((f).map llD)), .val (.list ((A).map llD)), .val (.list ((f).map llD)), .val (.list (A.map apD)), .no, .no], w6⟩ = .ok (.new (A.map fun _ => .int ((n : Int) + 1))) ⟨[.raw (.ref a), .raw (.ref pa), .val (.int ((x : Nat) : Int)), .val (.int ((n : Nat) : Int)), .val (.list ((L).map .int)), .val (.list ((f).map llD)), .val (.list ((A).map llD)), .val (.list ((f).map llD)), .val (.list (A.map apD)), .no, .no], w6⟩ := by
        refine lc_all (fun o : List Int => ⟨[.raw (.ref a), .raw (.ref pa), .val (.int ((x : Nat) : Int)), .val (.int ((n : Nat) : Int)), .val (.list ((L).map .int)), .val (.list ((f).map llD)), .val (.list ((A).map llD)), .val (.list ((f).map llD)), .val (.list (A.map apD)), .val (apD o), .no], w6⟩) _ (f := apD) (l := A) (by simp -implicitDefEqProofs) (by omega) rfl (fun a _ => by rfl) (fun a _ => by rfl) (fun o ho => ?_)
        have := hA o ho
        unfold e_law_k12_5
        simp -implicitDefEqProofs [apD, this]
      have nok := nest_ll nd
      have ap := appAll_ll (A := A) fun ℓ h => by rw [hA ℓ h]; exact n10
      have q1n : neO (.list (A.map llD)) (.list (A.map llD)) = some (.val (.bool false)) := by rw [x_neLL]; simp
      have q3n : neO (.list (f.map llD)) (.list (f.map llD)) = some (.val (.bool false)) := by rw [x_neLL]; simp
      have em : mulO (.list [PyData.int ((n : Int) + 1)]) (.int (A.length : Int)) = some (.new (A.map fun _ => PyData.int ((n : Int) + 1))) := by
        have h1 : inW (A.length : Int) := inW_of (by omega) (by omega)
        have h2 : leS A.length := size_le (by omega)
        have := rep_one (PyData.int ((n : Int) + 1)) A
        simp -implicitDefEqProofs [h1, h2, this]
      have q2n := ne_const (A := A) (k := (n : Int) + 1)
      obtain ⟨G, hG⟩ : ∃ G, G = A.map fun _ => PyData.int ((n : Int) + 1) := ⟨_, rfl⟩
      rw [← hG] at e9 em q2n
      obtain ⟨B, hB⟩ : ∃ B, B = A.map apD := ⟨_, rfl⟩
      rw [← hB] at e9 ap
      unfold b_law_k12_7 n_law_k12_6
      simp -implicitDefEqProofs [e1, e2, e3, hfd, en, e4, e5, e6, e7, e8, t2, nok, q1n, q3n, ap, e9, em, q2n]
      exact q6.mono (by omega))
  unfold p_law_k12
  simp -implicitDefEqProofs [rangeD, e]

end DL

noncomputable section
namespace DL
open PySem L2 PyProof.Rows
open Evl (Ex)
namespace K12
def top (i : Nat) : Stmt := PySem.Challenge.pw_ontheline_k12_lines_of_a_folk.main.body.getD i (.Pass ⟨0, 0, 0, 0⟩)
structure Txt (K : PySem.W.Frag) (mg : Str → Option Value) : Prop where
  b_isinstance : mg "isinstance" = none
  b_int : mg "int" = none
  b_bool : mg "bool" = none
  b_len : mg "len" = none
  b_list : mg "list" = none
  b_all : mg "all" = none
  b_set : mg "set" = none
  b_sorted : mg "sorted" = none
  b_min : mg "min" = none
  b_max : mg "max" = none
  b_range : mg "range" = none
  b_abs : mg "abs" = none
  exc : ExFs K mg ["NoFolk"]
  c_MOST_NAMES : ∃ t, mg "MOST_NAMES" = some (.int 10 t)
  c_MOST_HANDS : ∃ t, mg "MOST_HANDS" = some (.int 20 t)
  d_is_number : Wr K mg "is_number" (top 6) ["thing"]
  d_are_unlike_names : Wr K mg "are_unlike_names" (top 7) ["thing"]
  d_is_ranking : Wr K mg "is_ranking" (top 8) ["thing"]
  d_is_folk : Wr K mg "is_folk" (top 9) ["thing"]
  d_must_be_folk : Wr K mg "must_be_folk" (top 10) ["folk"]
  d_does_fall : Wr K mg "does_fall" (top 12) ["line", "ranking"]
  d_grown : Wr K mg "grown" (top 13) ["ranking"]
  d_lines_for : Wr K mg "lines_for" (top 14) ["folk"]
  d_all_lines : Wr K mg "all_lines" (top 15) ["folk"]
  d__law_purse : Wr K mg "_law_purse" (top 17) ["_law_script"]
  d__law_draw : Wr K mg "_law_draw" (top 18) ["_law_purse_here", "_law_out_of"]
  d__law_names : Wr K mg "_law_names" (top 19) ["_law_purse_here", "_law_many_here"]
  d__law_mixed : Wr K mg "_law_mixed" (top 20) ["_law_purse_here", "_law_some"]
  d__law_many : Wr K mg "_law_many" (top 21) ["_law_purse_here"]
  d__law_falling : Wr K mg "_law_falling" (top 22) ["_law_purse_here", "_law_line"]
  d__law_falls : Wr K mg "_law_falls" (top 23) ["_law_line", "_law_ranking"]
  d__law_lines : Wr K mg "_law_lines" (top 24) ["_law_ranking"]
  d__law_folk : Wr K mg "_law_folk" (top 25) ["_law_purse_here", "_law_line"]
section
variable {P : Program} {w : World} {K : PySem.W.Frag} {mg : Str → Option Value} {base : Heap} {cl : String → Addr}
abbrev N_is_number : List Str := ["thing"]
theorem sc_is_number : FnScope N_is_number ["thing"] (defScope (top 6)) := ⟨rfl, rfl, rfl, by decide +kernel, rfl, by decide +kernel, by decide +kernel⟩
theorem w_is_number (T : Txt K mg) : Cal P w K mg base (clOf K) "is_number" 1 ["thing"] F_is_number := by
  have sc := sc_is_number
  refine cal_of T.d_is_number sc (by decide) fun f cdv A outer s H E hr => ?_
  have tk : Takes (cxOf (L2.CX P w) P w K mg base N_is_number "is_number" (defScope (top 6)) f cdv A outer s H E) (fun cls d _ H => E cls d H) := takes_of rfl rfl rfl rfl
  exact ss_one (s_ret (v_and (d_isi (m := "int") (by decide) rfl T.b_isinstance (d_var 0) (pe_bltn rfl T.b_int (by decide +kernel) rfl)) (v_one (v_not (d_isi (m := "bool") (by decide) rfl T.b_isinstance (d_var 0) (pe_bltn rfl T.b_bool (by decide +kernel) rfl))))))
abbrev N_are_unlike_names : List Str := ["thing", "name"]
theorem sc_are_unlike_names : FnScope N_are_unlike_names ["thing"] (defScope (top 7)) := ⟨rfl, rfl, rfl, by decide +kernel, rfl, by decide +kernel, by decide +kernel⟩
theorem w_are_unlike_names (T : Txt K mg)
    (c_is_number : Cal P w K mg base (clOf K) "is_number" 1 ["thing"] F_is_number) : Cal P w K mg base (clOf K) "are_unlike_names" 2 ["thing"] F_are_unlike_names := by
  have sc := sc_are_unlike_names
  refine cal_of T.d_are_unlike_names sc (by decide) fun f cdv A outer s H E hr => ?_
  have tk : Takes (cxOf (L2.CX P w) P w K mg base N_are_unlike_names "are_unlike_names" (defScope (top 7)) f cdv A outer s H E) (fun cls d _ H => E cls d H) := takes_of rfl rfl rfl rfl
  exact ss_cons (s_if (d_tw (w_or (d_tnot (d_tval (d_isi (m := "list") (by decide) rfl T.b_isinstance (d_var 0) (pe_bltn rfl T.b_list (by decide +kernel) rfl)))) (w_or1 (d_tnot (d_tval (d_callB (cr_all rfl) cd_all rfl T.b_all (by decide +kernel) (ap_cons (d_lc rfl sc.nd (own := [("name", 1)]) (i_list (d_var 0)) (blkOk_by (own := [("name", 1)]) (N := N_are_unlike_names) (sc := defScope (top 7)) (by decide +kernel)) (g_name 1) (by decide) (fun _ _ _ _ _ => pg_name (i := 1) sc.nd rfl (by first | exact Or.inl rfl | exact Or.inr rfl)) (fun _ _ _ _ _ => dts_nil) (fun _ _ _ _ _ => v_and (d_cal c_is_number (hr.mono (by decide)) passA0 (ae_cons (d_var 1) ae_nil)) (v_one (d_ge (d_var 1) d_int)))) ap_nil))))))) (ss_one (s_ret d_bl)) ss_nil) (ss_one (s_ret (d_eq hr.units (d_lenSet rfl rfl T.b_len rfl T.b_set (d_var 0)) (d_callB (CallR.or' call_len_seq call_len_str) cd_len rfl T.b_len (by decide +kernel) (ap_cons (d_var 0) ap_nil)))))
abbrev N_is_ranking : List Str := ["thing"]
theorem sc_is_ranking : FnScope N_is_ranking ["thing"] (defScope (top 8)) := ⟨rfl, rfl, rfl, by decide +kernel, rfl, by decide +kernel, by decide +kernel⟩
theorem w_is_ranking (T : Txt K mg)
    (c_are_unlike_names : Cal P w K mg base (clOf K) "are_unlike_names" 2 ["thing"] F_are_unlike_names) : Cal P w K mg base (clOf K) "is_ranking" 3 ["thing"] F_is_ranking := by
  obtain ⟨t_MOST_NAMES, k_MOST_NAMES⟩ := T.c_MOST_NAMES
  have sc := sc_is_ranking
  refine cal_of T.d_is_ranking sc (by decide) fun f cdv A outer s H E hr => ?_
  have tk : Takes (cxOf (L2.CX P w) P w K mg base N_is_ranking "is_ranking" (defScope (top 8)) f cdv A outer s H E) (fun cls d _ H => E cls d H) := takes_of rfl rfl rfl rfl
  exact ss_one (s_ret (v_and (d_cal c_are_unlike_names (hr.mono (by decide)) (passAt tk) (ae_cons (d_var 0) ae_nil)) (v_and (d_gt (d_callB (CallR.or' call_len_seq call_len_str) cd_len rfl T.b_len (by decide +kernel) (ap_cons (d_var 0) ap_nil)) d_int) (v_one (d_le (d_callB (CallR.or' call_len_seq call_len_str) cd_len rfl T.b_len (by decide +kernel) (ap_cons (d_var 0) ap_nil)) (d_globI rfl k_MOST_NAMES))))))
abbrev N_is_folk : List Str := ["thing", "ranking"]
theorem sc_is_folk : FnScope N_is_folk ["thing"] (defScope (top 9)) := ⟨rfl, rfl, rfl, by decide +kernel, rfl, by decide +kernel, by decide +kernel⟩
theorem w_is_folk (T : Txt K mg)
    (c_is_ranking : Cal P w K mg base (clOf K) "is_ranking" 3 ["thing"] F_is_ranking) : Cal P w K mg base (clOf K) "is_folk" 4 ["thing"] F_is_folk := by
  obtain ⟨t_MOST_HANDS, k_MOST_HANDS⟩ := T.c_MOST_HANDS
  have sc := sc_is_folk
  refine cal_of T.d_is_folk sc (by decide) fun f cdv A outer s H E hr => ?_
  have tk : Takes (cxOf (L2.CX P w) P w K mg base N_is_folk "is_folk" (defScope (top 9)) f cdv A outer s H E) (fun cls d _ H => E cls d H) := takes_of rfl rfl rfl rfl
  exact ss_cons (s_if (d_tw (w_or (d_tnot (d_tval (d_isi (m := "list") (by decide) rfl T.b_isinstance (d_var 0) (pe_bltn rfl T.b_list (by decide +kernel) rfl)))) (w_or (t_lt (d_callB (CallR.or' call_len_seq call_len_str) cd_len rfl T.b_len (by decide +kernel) (ap_cons (d_var 0) ap_nil)) d_int) (w_or1 (t_gt (d_callB (CallR.or' call_len_seq call_len_str) cd_len rfl T.b_len (by decide +kernel) (ap_cons (d_var 0) ap_nil)) (d_globI rfl k_MOST_HANDS)))))) (ss_one (s_ret d_bl)) ss_nil) (ss_cons (s_if (d_tnot (d_tval (d_callB (cr_all rfl) cd_all rfl T.b_all (by decide +kernel) (ap_cons (d_lc rfl sc.nd (own := [("ranking", 1)]) (i_list (d_var 0)) (blkOk_by (own := [("ranking", 1)]) (N := N_is_folk) (sc := defScope (top 9)) (by decide +kernel)) (g_name 1) (by decide) (fun _ _ _ _ _ => pg_name (i := 1) sc.nd rfl (by first | exact Or.inl rfl | exact Or.inr rfl)) (fun _ _ _ _ _ => dts_nil) (fun _ _ _ _ _ => d_cal c_is_ranking (hr.mono (by decide)) passA0 (ae_cons (d_var 1) ae_nil))) ap_nil)))) (ss_one (s_ret d_bl)) ss_nil) (ss_one (s_ret (d_callB (cr_all rfl) cd_all rfl T.b_all (by decide +kernel) (ap_cons (d_lc rfl sc.nd (own := [("ranking", 1)]) (i_list (d_var 0)) (blkOk_by (own := [("ranking", 1)]) (N := N_is_folk) (sc := defScope (top 9)) (by decide +kernel)) (g_name 1) (by decide) (fun _ _ _ _ _ => pg_name (i := 1) sc.nd rfl (by first | exact Or.inl rfl | exact Or.inr rfl)) (fun _ _ _ _ _ => dts_nil) (fun _ _ _ _ _ => d_eq hr.units (d_callB (CallR.or' cr_sortedI (cr_sortedD hr.units)) cd_sorted rfl T.b_sorted (by decide +kernel) (ap_cons (d_var 1) ap_nil)) (d_callB (CallR.or' cr_sortedI (cr_sortedD hr.units)) cd_sorted rfl T.b_sorted (by decide +kernel) (ap_cons (d_ix (d_var 0) d_int (fun _ _ => rfl)) ap_nil)))) ap_nil)))))
abbrev N_must_be_folk : List Str := ["folk"]
theorem sc_must_be_folk : FnScope N_must_be_folk ["folk"] (defScope (top 10)) := ⟨rfl, rfl, rfl, by decide +kernel, rfl, by decide +kernel, by decide +kernel⟩
theorem w_must_be_folk (T : Txt K mg)
    (c_is_folk : Cal P w K mg base (clOf K) "is_folk" 4 ["thing"] F_is_folk) : Cal P w K mg base (clOf K) "must_be_folk" 5 ["folk"] F_must_be_folk := by
  have sc := sc_must_be_folk
  refine cal_of T.d_must_be_folk sc (by decide) fun f cdv A outer s H E hr => ?_
  have tk : Takes (cxOf (L2.CX P w) P w K mg base N_must_be_folk "must_be_folk" (defScope (top 10)) f cdv A outer s H E) (fun cls d _ H => E cls d H) := takes_of rfl rfl rfl rfl
  exact ss_one (s_if (d_tnot (d_tval (d_cal c_is_folk (hr.mono (by decide)) (passAt tk) (ae_cons (d_var 0) ae_nil)))) (ss_one (s_raise (n := "NoFolk") rfl tk rfl (T.exc.each "NoFolk" (by decide)).x (T.exc.each "NoFolk" (by decide)).g (T.exc.each "NoFolk" (by decide)).kp (T.exc.each "NoFolk" (by decide)).b (T.exc.each "NoFolk" (by decide)).ty rfl)) ss_nil)
abbrev N_does_fall : List Str := ["line", "ranking", "low", "high", "name", "at"]
theorem sc_does_fall : FnScope N_does_fall ["line", "ranking"] (defScope (top 12)) := ⟨rfl, rfl, rfl, by decide +kernel, rfl, by decide +kernel, by decide +kernel⟩
theorem w_does_fall (T : Txt K mg) : Cal P w K mg base (clOf K) "does_fall" 1 ["line", "ranking"] F_does_fall := by
  have sc := sc_does_fall
  refine cal_of T.d_does_fall sc (by decide) fun f cdv A outer s H E hr => ?_
  have tk : Takes (cxOf (L2.CX P w) P w K mg base N_does_fall "does_fall" (defScope (top 12)) f cdv A outer s H E) (fun cls d _ H => E cls d H) := takes_of rfl rfl rfl rfl
  exact ss_cons (s_set (i := 2) sc.nd rfl (by first | exact Or.inl rfl | exact Or.inr rfl) (d_index (d_var 0) (d_ix (d_var 1) d_int (fun _ _ => rfl)))) (ss_cons (s_set (i := 3) sc.nd rfl (by first | exact Or.inl rfl | exact Or.inr rfl) (d_var 2)) (ss_cons (s_for (passes_of rfl) rfl (i_list (d_slice (d_var 1) (dp_some d_int) dp_none)) (pg_name (i := 4) sc.nd rfl (by first | exact Or.inl rfl | exact Or.inr rfl)) (g_name 4) (ss_cons (s_set (i := 5) sc.nd rfl (by first | exact Or.inl rfl | exact Or.inr rfl) (d_index (d_var 0) (d_var 4))) (ss_cons (s_if (d_tw (w_and (t_ne hr.units (d_var 5) (d_sub (d_var 2) d_int)) (w_and1 (t_ne hr.units (d_var 5) (d_add (d_var 3) d_int))))) (ss_one (s_ret d_bl)) ss_nil) (ss_cons (s_set (i := 2) sc.nd rfl (by first | exact Or.inl rfl | exact Or.inr rfl) (d_callB (CallR.or' (cr_min rfl) (call_min2 rfl)) cd_min rfl T.b_min (by decide +kernel) (ap_cons (d_var 2) (ap_cons (d_var 5) ap_nil)))) (ss_one (s_set (i := 3) sc.nd rfl (by first | exact Or.inl rfl | exact Or.inr rfl) (d_callB (CallR.or' (cr_max rfl) (call_max2 rfl)) cd_max rfl T.b_max (by decide +kernel) (ap_cons (d_var 3) (ap_cons (d_var 5) ap_nil))))))))) (ss_one (s_ret d_bl))))
abbrev N_grown : List Str := ["ranking", "found", "name", "line"]
theorem sc_grown : FnScope N_grown ["ranking"] (defScope (top 13)) := ⟨rfl, rfl, rfl, by decide +kernel, rfl, by decide +kernel, by decide +kernel⟩
theorem w_grown (T : Txt K mg) : Cal P w K mg base (clOf K) "grown" 1 ["ranking"] F_grown := by
  have sc := sc_grown
  refine cal_of T.d_grown sc (by decide) fun f cdv A outer s H E hr => ?_
  have tk : Takes (cxOf (L2.CX P w) P w K mg base N_grown "grown" (defScope (top 13)) f cdv A outer s H E) (fun cls d _ H => E cls d H) := takes_of rfl rfl rfl rfl
  exact ss_cons (s_set (i := 1) sc.nd rfl (by first | exact Or.inl rfl | exact Or.inr rfl) (d_lst (ae_cons (d_slice (d_var 0) dp_none (dp_some d_int)) ae_nil))) (ss_cons (s_for (passes_of rfl) rfl (i_list (d_slice (d_var 0) (dp_some d_int) dp_none)) (pg_name (i := 2) sc.nd rfl (by first | exact Or.inl rfl | exact Or.inr rfl)) (g_name 2) (ss_one (s_set (i := 1) sc.nd rfl (by first | exact Or.inl rfl | exact Or.inr rfl) (d_add (d_lc rfl sc.nd (own := [("line", 3)]) (i_list (d_var 1)) (blkOk_by (own := [("line", 3)]) (N := N_grown) (sc := defScope (top 13)) (by decide +kernel)) (g_name 3) (by decide) (fun _ _ _ _ _ => pg_name (i := 3) sc.nd rfl (by first | exact Or.inl rfl | exact Or.inr rfl)) (fun _ _ _ _ _ => dts_nil) (fun _ _ _ _ _ => d_add (d_lst (ae_cons (d_var 2) ae_nil)) (d_var 3))) (d_lc rfl sc.nd (own := [("line", 3)]) (i_list (d_var 1)) (blkOk_by (own := [("line", 3)]) (N := N_grown) (sc := defScope (top 13)) (by decide +kernel)) (g_name 3) (by decide) (fun _ _ _ _ _ => pg_name (i := 3) sc.nd rfl (by first | exact Or.inl rfl | exact Or.inr rfl)) (fun _ _ _ _ _ => dts_nil) (fun _ _ _ _ _ => d_add (d_var 3) (d_lst (ae_cons (d_var 2) ae_nil)))))))) (ss_one (s_ret (d_callB (CallR.or' cr_sortedI (cr_sortedD hr.units)) cd_sorted rfl T.b_sorted (by decide +kernel) (ap_cons (d_var 1) ap_nil)))))
theorem wd_grown (T : Txt K mg) : Cald P w K mg base (clOf K) "grown" 1 ["ranking"] F_grownD := by
  have sc := sc_grown
  refine cald_of T.d_grown sc (by decide) fun f cdv A outer s H E hr => ?_
  have tk : Takes (cxOf (L2.CX P w) P w K mg base N_grown "grown" (defScope (top 13)) f cdv A outer s H E) (fun cls d _ H => E cls d H) := takes_of rfl rfl rfl rfl
  exact sd_grow (i := 1) sc.nd rfl (by first | exact Or.inl rfl | exact Or.inr rfl) (d_slice (d_var 0) dp_none (dp_some d_int)) (passes_of rfl) rfl (d_slice (d_var 0) (dp_some d_int) dp_none) (pg_name (i := 2) sc.nd rfl (by first | exact Or.inl rfl | exact Or.inr rfl)) (g_name 2) (ss_one (s_set (i := 1) sc.nd rfl (by first | exact Or.inl rfl | exact Or.inr rfl) (d_add (d_lc rfl sc.nd (own := [("line", 3)]) (i_list (d_var 1)) (blkOk_by (own := [("line", 3)]) (N := N_grown) (sc := defScope (top 13)) (by decide +kernel)) (g_name 3) (by decide) (fun _ _ _ _ _ => pg_name (i := 3) sc.nd rfl (by first | exact Or.inl rfl | exact Or.inr rfl)) (fun _ _ _ _ _ => dts_nil) (fun _ _ _ _ _ => d_add (d_lst (ae_cons (d_var 2) ae_nil)) (d_var 3))) (d_lc rfl sc.nd (own := [("line", 3)]) (i_list (d_var 1)) (blkOk_by (own := [("line", 3)]) (N := N_grown) (sc := defScope (top 13)) (by decide +kernel)) (g_name 3) (by decide) (fun _ _ _ _ _ => pg_name (i := 3) sc.nd rfl (by first | exact Or.inl rfl | exact Or.inr rfl)) (fun _ _ _ _ _ => dts_nil) (fun _ _ _ _ _ => d_add (d_var 3) (d_lst (ae_cons (d_var 2) ae_nil))))))) (ss_one (s_ret (d_callB (CallR.or' cr_sortedI (cr_sortedD hr.units)) cd_sorted rfl T.b_sorted (by decide +kernel) (ap_cons (d_var 1) ap_nil))))
abbrev N_lines_for : List Str := ["folk", "line", "ranking"]
theorem sc_lines_for : FnScope N_lines_for ["folk"] (defScope (top 14)) := ⟨rfl, rfl, rfl, by decide +kernel, rfl, by decide +kernel, by decide +kernel⟩
theorem w_lines_for (T : Txt K mg)
    (c_does_fall : Cal P w K mg base (clOf K) "does_fall" 1 ["line", "ranking"] F_does_fall)
    (c_grown : Cal P w K mg base (clOf K) "grown" 1 ["ranking"] F_grown) : Cal P w K mg base (clOf K) "lines_for" 2 ["folk"] F_lines_for := by
  have sc := sc_lines_for
  refine cal_of T.d_lines_for sc (by decide) fun f cdv A outer s H E hr => ?_
  have tk : Takes (cxOf (L2.CX P w) P w K mg base N_lines_for "lines_for" (defScope (top 14)) f cdv A outer s H E) (fun cls d _ H => E cls d H) := takes_of rfl rfl rfl rfl
  exact ss_one (s_ret (d_lc rfl sc.nd (own := [("line", 1)]) (i_list (d_cal c_grown (hr.mono (by decide)) (passAt tk) (ae_cons (d_ix (d_var 0) d_int (fun _ _ => rfl)) ae_nil))) (blkOk_by (own := [("line", 1)]) (N := N_lines_for) (sc := defScope (top 14)) (by decide +kernel)) (g_name 1) (by decide) (fun _ _ _ _ _ => pg_name (i := 1) sc.nd rfl (by first | exact Or.inl rfl | exact Or.inr rfl)) (fun _ _ _ _ _ => dts_one (d_tval (d_callB (cr_all rfl) cd_all rfl T.b_all (by decide +kernel) (ap_cons (d_lc rfl sc.nd (own := [("ranking", 2)]) (i_list (d_var 0)) (blkOk_by (own := [("ranking", 2)]) (N := N_lines_for) (by kernel_rfl)) (g_name 2) (by decide) (fun _ _ _ _ _ => pg_name (i := 2) sc.nd rfl (by first | exact Or.inl rfl | exact Or.inr rfl)) (fun _ _ _ _ _ => dts_nil) (fun _ _ _ _ _ => d_cal c_does_fall (hr.mono (by decide)) passA0 (ae_cons (d_var 1) (ae_cons (d_var 2) ae_nil)))) ap_nil)))) (fun _ _ _ _ _ => d_var 1)))
theorem wd_lines_for (T : Txt K mg)
    (c_does_fall : Cal P w K mg base (clOf K) "does_fall" 1 ["line", "ranking"] F_does_fall)
    (c_grown : Cal P w K mg base (clOf K) "grown" 1 ["ranking"] F_grown)
    (cd_grown : Cald P w K mg base (clOf K) "grown" 1 ["ranking"] F_grownD) : Cald P w K mg base (clOf K) "lines_for" 2 ["folk"] F_lines_forD := by
  have sc := sc_lines_for
  refine cald_of T.d_lines_for sc (by decide) fun f cdv A outer s H E hr => ?_
  have tk : Takes (cxOf (L2.CX P w) P w K mg base N_lines_for "lines_for" (defScope (top 14)) f cdv A outer s H E) (fun cls d _ H => E cls d H) := takes_of rfl rfl rfl rfl
  exact sd_one (sd_ret (dd_filt (own := [("line", 1)]) (i := 1) rfl sc.nd (dd_cal cd_grown (hr.mono (by decide)) (passAt tk) (ae_cons (d_ix (d_var 0) d_int (fun _ _ => rfl)) ae_nil)) (blkOk_by (own := [("line", 1)]) (N := N_lines_for) (sc := defScope (top 14)) (by decide +kernel)) (by decide) (fun _ _ _ _ _ => pg_name (i := 1) sc.nd rfl (by first | exact Or.inl rfl | exact Or.inr rfl)) (fun _ _ _ _ _ => dts_one (d_tval (d_callB (cr_all rfl) cd_all rfl T.b_all (by decide +kernel) (ap_cons (d_lc rfl sc.nd (own := [("ranking", 2)]) (i_list (d_var 0)) (blkOk_by (own := [("ranking", 2)]) (N := N_lines_for) (by kernel_rfl)) (g_name 2) (by decide) (fun _ _ _ _ _ => pg_name (i := 2) sc.nd rfl (by first | exact Or.inl rfl | exact Or.inr rfl)) (fun _ _ _ _ _ => dts_nil) (fun _ _ _ _ _ => d_cal c_does_fall (hr.mono (by decide)) passA0 (ae_cons (d_var 1) (ae_cons (d_var 2) ae_nil)))) ap_nil)))) (fun _ _ _ _ _ => pv 1)))
abbrev N_all_lines : List Str := ["folk"]
theorem sc_all_lines : FnScope N_all_lines ["folk"] (defScope (top 15)) := ⟨rfl, rfl, rfl, by decide +kernel, rfl, by decide +kernel, by decide +kernel⟩
theorem w_all_lines (T : Txt K mg)
    (c_must_be_folk : Cal P w K mg base (clOf K) "must_be_folk" 5 ["folk"] F_must_be_folk)
    (c_lines_for : Cal P w K mg base (clOf K) "lines_for" 2 ["folk"] F_lines_for) : Cal P w K mg base (clOf K) "all_lines" 6 ["folk"] F_all_lines := by
  have sc := sc_all_lines
  refine cal_of T.d_all_lines sc (by decide) fun f cdv A outer s H E hr => ?_
  have tk : Takes (cxOf (L2.CX P w) P w K mg base N_all_lines "all_lines" (defScope (top 15)) f cdv A outer s H E) (fun cls d _ H => E cls d H) := takes_of rfl rfl rfl rfl
  exact ss_cons (s_expr (d_cal c_must_be_folk (hr.mono (by decide)) (passAt tk) (ae_cons (d_var 0) ae_nil))) (ss_one (s_ret (d_cal c_lines_for (hr.mono (by decide)) (passAt tk) (ae_cons (d_var 0) ae_nil))))
theorem wd_all_lines (T : Txt K mg)
    (c_must_be_folk : Cal P w K mg base (clOf K) "must_be_folk" 5 ["folk"] F_must_be_folk)
    (c_lines_for : Cal P w K mg base (clOf K) "lines_for" 2 ["folk"] F_lines_for)
    (cd_lines_for : Cald P w K mg base (clOf K) "lines_for" 2 ["folk"] F_lines_forD) : Cald P w K mg base (clOf K) "all_lines" 6 ["folk"] F_all_linesD := by
  have sc := sc_all_lines
  refine cald_of T.d_all_lines sc (by decide) fun f cdv A outer s H E hr => ?_
  have tk : Takes (cxOf (L2.CX P w) P w K mg base N_all_lines "all_lines" (defScope (top 15)) f cdv A outer s H E) (fun cls d _ H => E cls d H) := takes_of rfl rfl rfl rfl
  exact sd_cons (s_expr (d_cal c_must_be_folk (hr.mono (by decide)) (passAt tk) (ae_cons (d_var 0) ae_nil))) (sd_one (sd_ret (dd_cal cd_lines_for (hr.mono (by decide)) (passAt tk) (ae_cons (d_var 0) ae_nil))))
abbrev N__law_purse : List Str := ["_law_script", "_law_cells", "_law_k"]
theorem sc__law_purse : FnScope N__law_purse ["_law_script"] (defScope (top 17)) := ⟨rfl, rfl, rfl, by decide +kernel, rfl, by decide +kernel, by decide +kernel⟩
theorem w__law_purse (T : Txt K mg) (hp : PurseOk 3 p_law_purse) : CalS P w K mg base "_law_purse" 1 ["_law_script"] (spPurse K) := by
  have sc := sc__law_purse
  refine purse_ok (cl := fun _ => 0) T.d__law_purse sc (by decide) rfl (fun f cdv A outer s H E hr => ?_) hp
  have tk : Takes (cxOf (L2.CX P w) P w K mg base N__law_purse "_law_purse" (defScope (top 17)) f cdv A outer s H E) (fun cls d _ H => E cls d H) := takes_of rfl rfl rfl rfl
  exact ⟨ps_asg (pe_slice sl_list (pv 0) po_none (po_some pe_int)) (pg_name (i := 1) sc.nd rfl (by first | exact Or.inl rfl | exact Or.inr rfl)) rfl rfl rfl, ss_cons (s_for (passes_of rfl) rfl (i_range1 rfl T.b_range (ap_cons (d_callB (CallR.or' call_len_seq call_len_str) cd_len rfl T.b_len (by decide +kernel) (ap_cons (d_var 1) ap_nil)) ap_nil)) (pg_name (i := 2) sc.nd rfl (by first | exact Or.inl rfl | exact Or.inr rfl)) (g_name 2) (ss_one (s_if (t_ge (d_callB call_abs cd_abs rfl T.b_abs (by decide +kernel) (ap_cons (d_ix (d_var 1) (d_var 2) (fun _ _ => rfl)) ap_nil)) (d_pow d_int d_int)) (ss_one (s_setIx (d_mod (d_ix (d_var 1) (d_var 2) (fun _ _ => rfl)) (d_pow (d_pow d_int d_int) d_int)) (pv 1) (d_var 2))) ss_nil))) (ss_cons (s_if (t_eq hr.units (d_var 1) (d_lst ae_nil)) (ss_one (s_set (i := 1) sc.nd rfl (by first | exact Or.inl rfl | exact Or.inr rfl) (d_lst (ae_cons d_int ae_nil)))) ss_nil) (ss_one (s_ret (d_lst (ae_cons (d_var 1) (ae_cons d_int ae_nil))))))⟩
abbrev N__law_draw : List Str := ["_law_purse_here", "_law_out_of", "_law_cells", "_law_turn", "_law_at", "_law_cell", "_law_number", "_law_other"]
theorem sc__law_draw : FnScope N__law_draw ["_law_purse_here", "_law_out_of"] (defScope (top 18)) := ⟨rfl, rfl, rfl, by decide +kernel, rfl, by decide +kernel, by decide +kernel⟩
theorem w__law_draw (T : Txt K mg) : Cal P w K mg base (clOf K) "_law_draw" 1 ["_law_purse_here", "_law_out_of"] F_law_draw := by
  have sc := sc__law_draw
  refine cal_of T.d__law_draw sc (by decide) fun f cdv A outer s H E hr => ?_
  have tk : Takes (cxOf (L2.CX P w) P w K mg base N__law_draw "_law_draw" (defScope (top 18)) f cdv A outer s H E) (fun cls d _ H => E cls d H) := takes_of rfl rfl rfl rfl
  exact ss_cons (s_unP (pv 0) (pg_unl rfl (pgs_cons (pg_name (i := 2) sc.nd rfl (by first | exact Or.inl rfl | exact Or.inr rfl)) (pgs_cons (pg_name (i := 3) sc.nd rfl (by first | exact Or.inl rfl | exact Or.inr rfl)) pgs_nil)))) (ss_cons (s_set (i := 4) sc.nd rfl (by first | exact Or.inl rfl | exact Or.inr rfl) (d_mod (d_var 3) (d_lenC (pv 2) rfl T.b_len))) (ss_cons (s_set (i := 5) sc.nd rfl (by first | exact Or.inl rfl | exact Or.inr rfl) (d_ixC (pv 2) (d_var 4) (fun _ _ => rfl))) (ss_cons (s_setT (d_add (d_var 3) d_int) (pv 0)) (ss_cons (s_if (t_ge (d_var 5) (d_pow d_int d_int)) (ss_cons (s_setC (d_fdiv (d_var 5) (d_var 1)) (pv 2) (d_var 4)) (ss_one (s_ret (d_mod (d_var 5) (d_var 1))))) ss_nil) (ss_cons (s_set (i := 6) sc.nd rfl (by first | exact Or.inl rfl | exact Or.inr rfl) (d_mod (d_add (d_add (d_mul (d_mod (d_var 5) d_int) d_int) (d_mul (d_mul (d_var 3) (d_var 3)) d_int)) d_int) d_int)) (ss_cons (s_set (i := 6) sc.nd rfl (by first | exact Or.inl rfl | exact Or.inr rfl) (d_mod (d_mul (d_var 6) (d_var 6)) d_int)) (ss_cons (s_set (i := 6) sc.nd rfl (by first | exact Or.inl rfl | exact Or.inr rfl) (d_mod (d_mul (d_var 6) (d_var 6)) d_int)) (ss_cons (s_if (t_gt (d_var 1) (d_pow d_int d_int)) (ss_cons (s_set (i := 7) sc.nd rfl (by first | exact Or.inl rfl | exact Or.inr rfl) (d_mod (d_add (d_add (d_mul (d_var 6) d_int) (d_mul (d_var 3) d_int)) d_int) d_int)) (ss_one (s_set (i := 6) sc.nd rfl (by first | exact Or.inl rfl | exact Or.inr rfl) (d_mul (d_var 6) (d_add (d_mul (d_mul (d_var 7) (d_var 7)) (d_var 7)) d_int))))) ss_nil) (ss_one (s_ret (d_mod (d_var 6) (d_var 1))))))))))))
abbrev N__law_names : List Str := ["_law_purse_here", "_law_many_here", "_law_found", "_law_last", "_law_k", "_law_some"]
theorem sc__law_names : FnScope N__law_names ["_law_purse_here", "_law_many_here"] (defScope (top 19)) := ⟨rfl, rfl, rfl, by decide +kernel, rfl, by decide +kernel, by decide +kernel⟩
theorem w__law_names (T : Txt K mg)
    (c__law_draw : Cal P w K mg base (clOf K) "_law_draw" 1 ["_law_purse_here", "_law_out_of"] F_law_draw) : Cal P w K mg base (clOf K) "_law_names" 2 ["_law_purse_here", "_law_many_here"] F_law_names := by
  have sc := sc__law_names
  refine cal_of T.d__law_names sc (by decide) fun f cdv A outer s H E hr => ?_
  have tk : Takes (cxOf (L2.CX P w) P w K mg base N__law_names "_law_names" (defScope (top 19)) f cdv A outer s H E) (fun cls d _ H => E cls d H) := takes_of rfl rfl rfl rfl
  exact ss_cons (s_set (i := 2) sc.nd rfl (by first | exact Or.inl rfl | exact Or.inr rfl) (d_lst ae_nil)) (ss_cons (s_set (i := 3) sc.nd rfl (by first | exact Or.inl rfl | exact Or.inr rfl) (d_neg d_int)) (ss_cons (s_for (passes_of rfl) rfl (i_range1 rfl T.b_range (ap_cons (d_var 1) ap_nil)) (pg_name (i := 4) sc.nd rfl (by first | exact Or.inl rfl | exact Or.inr rfl)) (g_name 4) (ss_cons (s_set (i := 5) sc.nd rfl (by first | exact Or.inl rfl | exact Or.inr rfl) (d_lst (ae_cons d_int (ae_cons (d_add d_int (d_cal c__law_draw (hr.mono (by decide)) (passAt tk) (ae_cons (d_var 0) (ae_cons d_int ae_nil)))) (ae_cons (d_add d_int (d_cal c__law_draw (hr.mono (by decide)) (passAt tk) (ae_cons (d_var 0) (ae_cons (d_pow d_int d_int) ae_nil)))) ae_nil))))) (ss_cons (s_set (i := 3) sc.nd rfl (by first | exact Or.inl rfl | exact Or.inr rfl) (d_add (d_var 3) (d_ix (d_var 5) (d_fdiv (d_cal c__law_draw (hr.mono (by decide)) (passAt tk) (ae_cons (d_var 0) (ae_cons d_int ae_nil))) d_int) (fun _ _ => rfl)))) (ss_one (s_expr (d_append (pv 2) (d_var 3))))))) (ss_one (s_ret (d_var 2)))))
abbrev N__law_mixed : List Str := ["_law_purse_here", "_law_some", "_law_left", "_law_found"]
theorem sc__law_mixed : FnScope N__law_mixed ["_law_purse_here", "_law_some"] (defScope (top 20)) := ⟨rfl, rfl, rfl, by decide +kernel, rfl, by decide +kernel, by decide +kernel⟩
theorem w__law_mixed (T : Txt K mg)
    (c__law_draw : Cal P w K mg base (clOf K) "_law_draw" 1 ["_law_purse_here", "_law_out_of"] F_law_draw) : Cal P w K mg base (clOf K) "_law_mixed" 2 ["_law_purse_here", "_law_some"] F_law_mixed := by
  have sc := sc__law_mixed
  refine cal_of T.d__law_mixed sc (by decide) fun f cdv A outer s H E hr => ?_
  have tk : Takes (cxOf (L2.CX P w) P w K mg base N__law_mixed "_law_mixed" (defScope (top 20)) f cdv A outer s H E) (fun cls d _ H => E cls d H) := takes_of rfl rfl rfl rfl
  exact ss_cons (s_set (i := 2) sc.nd rfl (by first | exact Or.inl rfl | exact Or.inr rfl) (d_callTy call_list_of cd_list rfl T.b_list (by decide +kernel) (ap_cons (d_var 1) ap_nil))) (ss_cons (s_set (i := 3) sc.nd rfl (by first | exact Or.inl rfl | exact Or.inr rfl) (d_lst ae_nil)) (ss_cons (s_while 10000 (passes_of rfl) (t_ne hr.units (d_var 2) (d_lst ae_nil)) (ss_one (s_expr (d_append (pv 3) (d_popAt (pv 2) (d_cal c__law_draw (hr.mono (by decide)) (passAt tk) (ae_cons (d_var 0) (ae_cons (d_callB (CallR.or' call_len_seq call_len_str) cd_len rfl T.b_len (by decide +kernel) (ap_cons (d_var 2) ap_nil)) ae_nil)))))))) (ss_one (s_ret (d_var 3)))))
abbrev N__law_many : List Str := ["_law_purse_here"]
theorem sc__law_many : FnScope N__law_many ["_law_purse_here"] (defScope (top 21)) := ⟨rfl, rfl, rfl, by decide +kernel, rfl, by decide +kernel, by decide +kernel⟩
theorem w__law_many (T : Txt K mg)
    (c__law_draw : Cal P w K mg base (clOf K) "_law_draw" 1 ["_law_purse_here", "_law_out_of"] F_law_draw) : Cal P w K mg base (clOf K) "_law_many" 2 ["_law_purse_here"] F_law_many := by
  have sc := sc__law_many
  refine cal_of T.d__law_many sc (by decide) fun f cdv A outer s H E hr => ?_
  have tk : Takes (cxOf (L2.CX P w) P w K mg base N__law_many "_law_many" (defScope (top 21)) f cdv A outer s H E) (fun cls d _ H => E cls d H) := takes_of rfl rfl rfl rfl
  exact ss_one (s_ret (d_add d_int (d_cal c__law_draw (hr.mono (by decide)) (passAt tk) (ae_cons (d_var 0) (ae_cons (d_ix (d_lst (ae_cons d_int (ae_cons d_int (ae_cons d_int ae_nil)))) (d_cal c__law_draw (hr.mono (by decide)) (passAt tk) (ae_cons (d_var 0) (ae_cons d_int ae_nil))) (fun _ _ => rfl)) ae_nil)))))
abbrev N__law_falling : List Str := ["_law_purse_here", "_law_line", "_law_left", "_law_found"]
theorem sc__law_falling : FnScope N__law_falling ["_law_purse_here", "_law_line"] (defScope (top 22)) := ⟨rfl, rfl, rfl, by decide +kernel, rfl, by decide +kernel, by decide +kernel⟩
theorem w__law_falling (T : Txt K mg)
    (c__law_draw : Cal P w K mg base (clOf K) "_law_draw" 1 ["_law_purse_here", "_law_out_of"] F_law_draw) : Cal P w K mg base (clOf K) "_law_falling" 2 ["_law_purse_here", "_law_line"] F_law_falling := by
  have sc := sc__law_falling
  refine cal_of T.d__law_falling sc (by decide) fun f cdv A outer s H E hr => ?_
  have tk : Takes (cxOf (L2.CX P w) P w K mg base N__law_falling "_law_falling" (defScope (top 22)) f cdv A outer s H E) (fun cls d _ H => E cls d H) := takes_of rfl rfl rfl rfl
  exact ss_cons (s_set (i := 2) sc.nd rfl (by first | exact Or.inl rfl | exact Or.inr rfl) (d_callTy call_list_of cd_list rfl T.b_list (by decide +kernel) (ap_cons (d_var 1) ap_nil))) (ss_cons (s_set (i := 3) sc.nd rfl (by first | exact Or.inl rfl | exact Or.inr rfl) (d_lst ae_nil)) (ss_cons (s_while 10000 (passes_of rfl) (t_ne hr.units (d_var 2) (d_lst ae_nil)) (ss_one (s_expr (d_append (pv 3) (d_popAt (pv 2) (d_mul (d_sub (d_callB (CallR.or' call_len_seq call_len_str) cd_len rfl T.b_len (by decide +kernel) (ap_cons (d_var 2) ap_nil)) d_int) (d_cal c__law_draw (hr.mono (by decide)) (passAt tk) (ae_cons (d_var 0) (ae_cons d_int ae_nil))))))))) (ss_one (s_ret (d_rev (d_var 3))))))
abbrev N__law_falls : List Str := ["_law_line", "_law_ranking", "_law_places", "_law_name"]
theorem sc__law_falls : FnScope N__law_falls ["_law_line", "_law_ranking"] (defScope (top 23)) := ⟨rfl, rfl, rfl, by decide +kernel, rfl, by decide +kernel, by decide +kernel⟩
theorem w__law_falls (T : Txt K mg) : Cal P w K mg base (clOf K) "_law_falls" 1 ["_law_line", "_law_ranking"] F_law_falls := by
  have sc := sc__law_falls
  refine cal_of T.d__law_falls sc (by decide) fun f cdv A outer s H E hr => ?_
  have tk : Takes (cxOf (L2.CX P w) P w K mg base N__law_falls "_law_falls" (defScope (top 23)) f cdv A outer s H E) (fun cls d _ H => E cls d H) := takes_of rfl rfl rfl rfl
  exact ss_cons (s_set (i := 2) sc.nd rfl (by first | exact Or.inl rfl | exact Or.inr rfl) (d_lst ae_nil)) (ss_cons (s_for (passes_of rfl) rfl (i_list (d_var 1)) (pg_name (i := 3) sc.nd rfl (by first | exact Or.inl rfl | exact Or.inr rfl)) (g_name 3) (ss_cons (s_expr (d_append (pv 2) (d_index (d_var 0) (d_var 3)))) (ss_one (s_if (t_ne hr.units (d_sub (d_callB (CallR.or' (cr_max rfl) (call_max2 rfl)) cd_max rfl T.b_max (by decide +kernel) (ap_cons (d_var 2) ap_nil)) (d_callB (CallR.or' (cr_min rfl) (call_min2 rfl)) cd_min rfl T.b_min (by decide +kernel) (ap_cons (d_var 2) ap_nil))) (d_sub (d_callB (CallR.or' call_len_seq call_len_str) cd_len rfl T.b_len (by decide +kernel) (ap_cons (d_var 2) ap_nil)) d_int)) (ss_one (s_ret d_bl)) ss_nil)))) (ss_one (s_ret d_bl)))
abbrev N__law_lines : List Str := ["_law_ranking", "_law_found", "_law_name", "_law_line"]
theorem sc__law_lines : FnScope N__law_lines ["_law_ranking"] (defScope (top 24)) := ⟨rfl, rfl, rfl, by decide +kernel, rfl, by decide +kernel, by decide +kernel⟩
theorem w__law_lines (T : Txt K mg) : Cal P w K mg base (clOf K) "_law_lines" 1 ["_law_ranking"] F_law_lines := by
  have sc := sc__law_lines
  refine cal_of T.d__law_lines sc (by decide) fun f cdv A outer s H E hr => ?_
  have tk : Takes (cxOf (L2.CX P w) P w K mg base N__law_lines "_law_lines" (defScope (top 24)) f cdv A outer s H E) (fun cls d _ H => E cls d H) := takes_of rfl rfl rfl rfl
  exact ss_cons (s_set (i := 1) sc.nd rfl (by first | exact Or.inl rfl | exact Or.inr rfl) (d_lst (ae_cons (d_slice (d_var 0) dp_none (dp_some d_int)) ae_nil))) (ss_cons (s_for (passes_of rfl) rfl (i_list (d_slice (d_var 0) (dp_some d_int) dp_none)) (pg_name (i := 2) sc.nd rfl (by first | exact Or.inl rfl | exact Or.inr rfl)) (g_name 2) (ss_one (s_set (i := 1) sc.nd rfl (by first | exact Or.inl rfl | exact Or.inr rfl) (d_add (d_lc rfl sc.nd (own := [("_law_line", 3)]) (i_list (d_var 1)) (blkOk_by (own := [("_law_line", 3)]) (N := N__law_lines) (sc := defScope (top 24)) (by decide +kernel)) (g_name 3) (by decide) (fun _ _ _ _ _ => pg_name (i := 3) sc.nd rfl (by first | exact Or.inl rfl | exact Or.inr rfl)) (fun _ _ _ _ _ => dts_nil) (fun _ _ _ _ _ => d_add (d_lst (ae_cons (d_var 2) ae_nil)) (d_var 3))) (d_lc rfl sc.nd (own := [("_law_line", 3)]) (i_list (d_var 1)) (blkOk_by (own := [("_law_line", 3)]) (N := N__law_lines) (sc := defScope (top 24)) (by decide +kernel)) (g_name 3) (by decide) (fun _ _ _ _ _ => pg_name (i := 3) sc.nd rfl (by first | exact Or.inl rfl | exact Or.inr rfl)) (fun _ _ _ _ _ => dts_nil) (fun _ _ _ _ _ => d_add (d_var 3) (d_lst (ae_cons (d_var 2) ae_nil)))))))) (ss_one (s_ret (d_callB (CallR.or' cr_sortedI (cr_sortedD hr.units)) cd_sorted rfl T.b_sorted (by decide +kernel) (ap_cons (d_var 1) ap_nil)))))
abbrev N__law_folk : List Str := ["_law_purse_here", "_law_line", "_law_way", "_law_hands", "_law_folk_here", "_law_hand"]
theorem sc__law_folk : FnScope N__law_folk ["_law_purse_here", "_law_line"] (defScope (top 25)) := ⟨rfl, rfl, rfl, by decide +kernel, rfl, by decide +kernel, by decide +kernel⟩
theorem w__law_folk (T : Txt K mg)
    (c__law_draw : Cal P w K mg base (clOf K) "_law_draw" 1 ["_law_purse_here", "_law_out_of"] F_law_draw)
    (c__law_mixed : Cal P w K mg base (clOf K) "_law_mixed" 2 ["_law_purse_here", "_law_some"] F_law_mixed)
    (c__law_falling : Cal P w K mg base (clOf K) "_law_falling" 2 ["_law_purse_here", "_law_line"] F_law_falling) : Cal P w K mg base (clOf K) "_law_folk" 3 ["_law_purse_here", "_law_line"] F_law_folk := by
  have sc := sc__law_folk
  refine cal_of T.d__law_folk sc (by decide) fun f cdv A outer s H E hr => ?_
  have tk : Takes (cxOf (L2.CX P w) P w K mg base N__law_folk "_law_folk" (defScope (top 25)) f cdv A outer s H E) (fun cls d _ H => E cls d H) := takes_of rfl rfl rfl rfl
  exact ss_cons (s_set (i := 2) sc.nd rfl (by first | exact Or.inl rfl | exact Or.inr rfl) (d_cal c__law_draw (hr.mono (by decide)) (passAt tk) (ae_cons (d_var 0) (ae_cons d_int ae_nil)))) (ss_cons (s_set (i := 3) sc.nd rfl (by first | exact Or.inl rfl | exact Or.inr rfl) (d_ix (d_lst (ae_cons (d_add d_int (d_cal c__law_draw (hr.mono (by decide)) (passAt tk) (ae_cons (d_var 0) (ae_cons d_int ae_nil)))) (ae_cons d_int ae_nil))) (d_fdiv (d_cal c__law_draw (hr.mono (by decide)) (passAt tk) (ae_cons (d_var 0) (ae_cons d_int ae_nil))) d_int) (fun _ _ => rfl))) (ss_cons (s_setLc (i := 4) rfl sc.nd rfl rfl (sw_true rfl rfl rfl (by decide +kernel)) (own := [("_law_hand", 5)]) (i_range1 rfl T.b_range (ap_cons (d_var 3) ap_nil)) (blkOk_by (own := [("_law_hand", 5)]) (N := N__law_folk) (sc := defScope (top 25)) (by decide +kernel)) (g_name 5) (by decide) (fun _ _ _ _ _ => pg_name (i := 5) sc.nd rfl (by first | exact Or.inl rfl | exact Or.inr rfl)) (fun _ _ _ _ _ => dts_nil) (fun _ _ _ _ _ => d_cal c__law_falling (hr.mono (by decide)) passA0 (ae_cons (d_var 0) (ae_cons (d_var 1) ae_nil)))) (ss_cons (s_if (t_eq hr.units (d_var 2) d_int) (ss_one (s_setIx (d_cal c__law_mixed (hr.mono (by decide)) (passAt tk) (ae_cons (d_var 0) (ae_cons (d_var 1) ae_nil))) (pv 4) (d_cal c__law_draw (hr.mono (by decide)) (passAt tk) (ae_cons (d_var 0) (ae_cons (d_var 3) ae_nil))))) ss_nil) (ss_cons (s_if (d_tw (w_and (t_eq hr.units (d_var 2) d_int) (w_and1 (t_lt (d_var 3) d_int)))) (ss_one (s_setLc (i := 4) rfl sc.nd rfl rfl (sw_true rfl rfl rfl (by decide +kernel)) (own := [("_law_hand", 5)]) (i_list (d_var 4)) (blkOk_by (own := [("_law_hand", 5)]) (N := N__law_folk) (sc := defScope (top 25)) (by decide +kernel)) (g_name 5) (by decide) (fun _ _ _ _ _ => pg_name (i := 5) sc.nd rfl (by first | exact Or.inl rfl | exact Or.inr rfl)) (fun _ _ _ _ _ => dts_nil) (fun _ _ _ _ _ => d_cal c__law_mixed (hr.mono (by decide)) passA0 (ae_cons (d_var 0) (ae_cons (d_var 1) ae_nil))))) ss_nil) (ss_one (s_ret (d_var 4)))))))
abbrev N_law : List Str := ["_law_script", "_law_purse_here", "_law_turn", "_law_many_here", "_law_line", "_law_folk_here", "_law_due", "_law_handed", "_law_found", "_law_one", "_law_ranking"]
theorem sc_law : FnScope N_law ["_law_script"] (defScope (top 26)) := ⟨rfl, rfl, rfl, by decide +kernel, rfl, by decide +kernel, by decide +kernel⟩
theorem w_law (T : Txt K mg) (hp : LawOk 11 p_law_k12) (c__law_purse : CalS P w K mg base "_law_purse" 1 ["_law_script"] (spPurse K))
    (c_all_lines : Cal P w K mg base (clOf K) "all_lines" 6 ["folk"] F_all_lines)
    (c__law_draw : Cal P w K mg base (clOf K) "_law_draw" 1 ["_law_purse_here", "_law_out_of"] F_law_draw)
    (c__law_names : Cal P w K mg base (clOf K) "_law_names" 2 ["_law_purse_here", "_law_many_here"] F_law_names)
    (c__law_mixed : Cal P w K mg base (clOf K) "_law_mixed" 2 ["_law_purse_here", "_law_some"] F_law_mixed)
    (c__law_many : Cal P w K mg base (clOf K) "_law_many" 2 ["_law_purse_here"] F_law_many)
    (c__law_falls : Cal P w K mg base (clOf K) "_law_falls" 1 ["_law_line", "_law_ranking"] F_law_falls)
    (c__law_lines : Cal P w K mg base (clOf K) "_law_lines" 1 ["_law_ranking"] F_law_lines)
    (c__law_folk : Cal P w K mg base (clOf K) "_law_folk" 3 ["_law_purse_here", "_law_line"] F_law_folk)
    (cd_all_lines : Cald P w K mg base (clOf K) "all_lines" 6 ["folk"] F_all_linesD) {f : Addr} {fd : FuncData} (F : Fun K "law" "law" (top 26) f fd) : FnG P w K mg base (L2.CX P w) 7 f fd ["_law_script"] (spLaw K) := by
  have sc := sc_law
  refine law_ok (cl := clOf K) F sc (i := 1) (by decide) (by decide) rfl (fun f cdv A outer s H E hr => ?_) hp
  have tk : Takes (cxOf (L2.CX P w) P w K mg base N_law "law" (defScope (top 26)) f cdv A outer s H E) (fun cls d _ H => E cls d H) := takes_of rfl rfl rfl rfl
  obtain ⟨fp, fdp, okp, gp, kp, bp⟩ := c__law_purse
  exact ⟨ps_set (i := 1) sc.nd rfl (by first | exact Or.inl rfl | exact Or.inr rfl) (pe_callG okp (hr.mono (by decide)) rfl gp kp bp (passAt tk) (pa_cons (pv 0) pa_nil)), ss_cons (s_for (passes_of rfl) rfl (i_range1 rfl T.b_range (ap_cons d_int ap_nil)) (pg_name (i := 2) sc.nd rfl (by first | exact Or.inl rfl | exact Or.inr rfl)) (g_name 2) (ss_cons (s_set (i := 3) sc.nd rfl (by first | exact Or.inl rfl | exact Or.inr rfl) (d_ix (d_lst (ae_cons (d_add d_int (d_cal c__law_draw (hr.mono (by decide)) (passAt tk) (ae_cons (d_var 1) (ae_cons d_int ae_nil)))) (ae_cons (d_cal c__law_many (hr.mono (by decide)) (passAt tk) (ae_cons (d_var 1) ae_nil)) ae_nil))) (d_fdiv (d_cal c__law_draw (hr.mono (by decide)) (passAt tk) (ae_cons (d_var 1) (ae_cons d_int ae_nil))) d_int) (fun _ _ => rfl))) (ss_cons (s_set (i := 4) sc.nd rfl (by first | exact Or.inl rfl | exact Or.inr rfl) (d_cal c__law_mixed (hr.mono (by decide)) (passAt tk) (ae_cons (d_var 1) (ae_cons (d_cal c__law_names (hr.mono (by decide)) (passAt tk) (ae_cons (d_var 1) (ae_cons (d_var 3) ae_nil))) ae_nil)))) (ss_cons (s_set (i := 5) sc.nd rfl (by first | exact Or.inl rfl | exact Or.inr rfl) (d_cal c__law_folk (hr.mono (by decide)) (passAt tk) (ae_cons (d_var 1) (ae_cons (d_var 4) ae_nil)))) (ss_cons (s_setLc (i := 6) rfl sc.nd rfl rfl (sw_true rfl rfl rfl (by decide +kernel)) (own := [("_law_one", 9)]) (i_list (d_cal c__law_lines (hr.mono (by decide)) (passAt tk) (ae_cons (d_ix (d_var 5) d_int (fun _ _ => rfl)) ae_nil))) (blkOk_by (own := [("_law_one", 9)]) (N := N_law) (sc := defScope (top 26)) (by decide +kernel)) (g_name 9) (by decide) (fun _ _ _ _ _ => pg_name (i := 9) sc.nd rfl (by first | exact Or.inl rfl | exact Or.inr rfl)) (fun _ _ _ _ _ => dts_one (t_notIn hr.units (by rfl) d_bl (d_lc rfl sc.nd (own := [("_law_ranking", 10)]) (i_list (d_var 5)) (blkOk_by (own := [("_law_ranking", 10)]) (N := N_law) (by kernel_rfl)) (g_name 10) (by decide) (fun _ _ _ _ _ => pg_name (i := 10) sc.nd rfl (by first | exact Or.inl rfl | exact Or.inr rfl)) (fun _ _ _ _ _ => dts_nil) (fun _ _ _ _ _ => d_cal c__law_falls (hr.mono (by decide)) passA0 (ae_cons (d_var 9) (ae_cons (d_var 10) ae_nil)))))) (fun _ _ _ _ _ => d_var 9)) (ss_cons (s_setLc (i := 7) rfl sc.nd rfl rfl (sw_true rfl rfl rfl (by decide +kernel)) (own := [("_law_ranking", 10)]) (i_list (d_var 5)) (blkOk_by (own := [("_law_ranking", 10)]) (N := N_law) (sc := defScope (top 26)) (by decide +kernel)) (g_name 10) (by decide) (fun _ _ _ _ _ => pg_name (i := 10) sc.nd rfl (by first | exact Or.inl rfl | exact Or.inr rfl)) (fun _ _ _ _ _ => dts_nil) (fun _ _ _ _ _ => d_callTy call_list_of cd_list rfl T.b_list (by decide +kernel) (ap_cons (d_var 10) ap_nil))) (n_block (j := 8) [6, 7, 5] sc.nd rfl (by first | exact Or.inl rfl | exact Or.inr rfl) (fun H0 => dd_cal cd_all_lines (hr.mono (by decide)) (passAt tk) (ae_cons (d_var 7) ae_nil)) (n_cons (n_if (W := fun cls d _ H => E cls d H) (cl := clOf K) (d_tw (w_or (d_tnot (d_tval (d_isi (m := "list") (by decide) rfl T.b_isinstance (d_var 8) (pe_bltn rfl T.b_list (by decide +kernel) rfl)))) (w_or (t_ne hr.units (d_var 8) (d_var 6)) (w_or1 (t_ne hr.units (d_var 7) (d_var 5)))))) (ss_one (s_ret d_bl))) (n_cons (n_forA (W := fun cls d _ H => E cls d H) (cl := clOf K) (i := 9) (d := (.int (-7))) (by decide) (passes_of rfl) rfl (pv 8) sc.nd rfl (by first | exact Or.inl rfl | exact Or.inr rfl) (pv 9) (d_neg d_int) (fun _ => rfl) rfl) (n_one (n_if (W := fun cls d _ H => E cls d H) (cl := clOf K) (d_tw (w_or (t_ne hr.units (d_lc rfl sc.nd (own := [("_law_one", 9)]) (i_list (d_var 8)) (blkOk_by (own := [("_law_one", 9)]) (N := N_law) (sc := defScope (top 26)) (by decide +kernel)) (g_name 9) (by decide) (fun _ _ _ _ _ => pg_name (i := 9) sc.nd rfl (by first | exact Or.inl rfl | exact Or.inr rfl)) (fun _ _ _ _ _ => dts_nil) (fun _ _ _ _ _ => d_callB (CallR.or' call_len_seq call_len_str) cd_len rfl T.b_len (by decide +kernel) (ap_cons (d_var 9) ap_nil))) (d_mul (d_lst (ae_cons (d_add (d_var 3) d_int) ae_nil)) (d_callB (CallR.or' call_len_seq call_len_str) cd_len rfl T.b_len (by decide +kernel) (ap_cons (d_var 6) ap_nil)))) (w_or1 (t_ne hr.units (d_var 7) (d_var 5))))) (ss_one (s_ret d_bl))))))))))))) (ss_one (s_ret d_bl))⟩
end
theorem all_mk {P : Program} {w : World} {K : PySem.W.Frag} {h : Heap} {mg : Str → Option Value} {fa : Addr} (X : K.In h) (G : h.Ns mainGlobals mg) (hfa : mg "law" = some (.ref fa)) {f_is_number : Addr} {od_is_number an_is_number : Option Addr} {sl_is_number : Array (Option Value)} {oc_is_number kV_is_number dc_is_number pm_is_number cd_is_number ct_is_number : Value} {f_are_unlike_names : Addr} {od_are_unlike_names an_are_unlike_names : Option Addr} {sl_are_unlike_names : Array (Option Value)} {oc_are_unlike_names kV_are_unlike_names dc_are_unlike_names pm_are_unlike_names cd_are_unlike_names ct_are_unlike_names : Value} {f_is_ranking : Addr} {od_is_ranking an_is_ranking : Option Addr} {sl_is_ranking : Array (Option Value)} {oc_is_ranking kV_is_ranking dc_is_ranking pm_is_ranking cd_is_ranking ct_is_ranking : Value} {f_is_folk : Addr} {od_is_folk an_is_folk : Option Addr} {sl_is_folk : Array (Option Value)} {oc_is_folk kV_is_folk dc_is_folk pm_is_folk cd_is_folk ct_is_folk : Value} {f_must_be_folk : Addr} {od_must_be_folk an_must_be_folk : Option Addr} {sl_must_be_folk : Array (Option Value)} {oc_must_be_folk kV_must_be_folk dc_must_be_folk pm_must_be_folk cd_must_be_folk ct_must_be_folk : Value} {f_does_fall : Addr} {od_does_fall an_does_fall : Option Addr} {sl_does_fall : Array (Option Value)} {oc_does_fall kV_does_fall dc_does_fall pm_does_fall cd_does_fall ct_does_fall : Value} {f_grown : Addr} {od_grown an_grown : Option Addr} {sl_grown : Array (Option Value)} {oc_grown kV_grown dc_grown pm_grown cd_grown ct_grown : Value} {f_lines_for : Addr} {od_lines_for an_lines_for : Option Addr} {sl_lines_for : Array (Option Value)} {oc_lines_for kV_lines_for dc_lines_for pm_lines_for cd_lines_for ct_lines_for : Value} {f_all_lines : Addr} {od_all_lines an_all_lines : Option Addr} {sl_all_lines : Array (Option Value)} {oc_all_lines kV_all_lines dc_all_lines pm_all_lines cd_all_lines ct_all_lines : Value} {f__law_purse : Addr} {od__law_purse an__law_purse : Option Addr} {sl__law_purse : Array (Option Value)} {oc__law_purse kV__law_purse dc__law_purse pm__law_purse cd__law_purse ct__law_purse : Value} {f__law_draw : Addr} {od__law_draw an__law_draw : Option Addr} {sl__law_draw : Array (Option Value)} {oc__law_draw kV__law_draw dc__law_draw pm__law_draw cd__law_draw ct__law_draw : Value} {f__law_names : Addr} {od__law_names an__law_names : Option Addr} {sl__law_names : Array (Option Value)} {oc__law_names kV__law_names dc__law_names pm__law_names cd__law_names ct__law_names : Value} {f__law_mixed : Addr} {od__law_mixed an__law_mixed : Option Addr} {sl__law_mixed : Array (Option Value)} {oc__law_mixed kV__law_mixed dc__law_mixed pm__law_mixed cd__law_mixed ct__law_mixed : Value} {f__law_many : Addr} {od__law_many an__law_many : Option Addr} {sl__law_many : Array (Option Value)} {oc__law_many kV__law_many dc__law_many pm__law_many cd__law_many ct__law_many : Value} {f__law_falling : Addr} {od__law_falling an__law_falling : Option Addr} {sl__law_falling : Array (Option Value)} {oc__law_falling kV__law_falling dc__law_falling pm__law_falling cd__law_falling ct__law_falling : Value} {f__law_falls : Addr} {od__law_falls an__law_falls : Option Addr} {sl__law_falls : Array (Option Value)} {oc__law_falls kV__law_falls dc__law_falls pm__law_falls cd__law_falls ct__law_falls : Value} {f__law_lines : Addr} {od__law_lines an__law_lines : Option Addr} {sl__law_lines : Array (Option Value)} {oc__law_lines kV__law_lines dc__law_lines pm__law_lines cd__law_lines ct__law_lines : Value} {f__law_folk : Addr} {od__law_folk an__law_folk : Option Addr} {sl__law_folk : Array (Option Value)} {oc__law_folk kV__law_folk dc__law_folk pm__law_folk cd__law_folk ct__law_folk : Value} {f_law : Addr} {od_law an_law : Option Addr} {sl_law : Array (Option Value)} {oc_law kV_law dc_law pm_law cd_law ct_law : Value} {t_MOST_NAMES : Tok} {t_MOST_HANDS : Tok} {C_NoFolk : Addr} {C_FolkError : Addr}
    (a_is_number : PySem.W.nsIn K mainGlobals "is_number" = some (some (.ref f_is_number))) (l_is_number : K.lookup f_is_number = some ⟨oc_is_number, od_is_number, .func (PySem.W.fnOf "is_number" "is_number" (defArgs (top 6)) (defBody (top 6)) (defScope (top 6)) .none kV_is_number dc_is_number pm_is_number an_is_number cd_is_number ct_is_number), sl_is_number⟩) (c_is_number : PySem.W.codeIn K cd_is_number "is_number" = true) (k_is_number : PySem.W.keepIn K (.ref f_is_number) = true)
    (a_are_unlike_names : PySem.W.nsIn K mainGlobals "are_unlike_names" = some (some (.ref f_are_unlike_names))) (l_are_unlike_names : K.lookup f_are_unlike_names = some ⟨oc_are_unlike_names, od_are_unlike_names, .func (PySem.W.fnOf "are_unlike_names" "are_unlike_names" (defArgs (top 7)) (defBody (top 7)) (defScope (top 7)) .none kV_are_unlike_names dc_are_unlike_names pm_are_unlike_names an_are_unlike_names cd_are_unlike_names ct_are_unlike_names), sl_are_unlike_names⟩) (c_are_unlike_names : PySem.W.codeIn K cd_are_unlike_names "are_unlike_names" = true) (k_are_unlike_names : PySem.W.keepIn K (.ref f_are_unlike_names) = true)
    (a_is_ranking : PySem.W.nsIn K mainGlobals "is_ranking" = some (some (.ref f_is_ranking))) (l_is_ranking : K.lookup f_is_ranking = some ⟨oc_is_ranking, od_is_ranking, .func (PySem.W.fnOf "is_ranking" "is_ranking" (defArgs (top 8)) (defBody (top 8)) (defScope (top 8)) .none kV_is_ranking dc_is_ranking pm_is_ranking an_is_ranking cd_is_ranking ct_is_ranking), sl_is_ranking⟩) (c_is_ranking : PySem.W.codeIn K cd_is_ranking "is_ranking" = true) (k_is_ranking : PySem.W.keepIn K (.ref f_is_ranking) = true)
    (a_is_folk : PySem.W.nsIn K mainGlobals "is_folk" = some (some (.ref f_is_folk))) (l_is_folk : K.lookup f_is_folk = some ⟨oc_is_folk, od_is_folk, .func (PySem.W.fnOf "is_folk" "is_folk" (defArgs (top 9)) (defBody (top 9)) (defScope (top 9)) .none kV_is_folk dc_is_folk pm_is_folk an_is_folk cd_is_folk ct_is_folk), sl_is_folk⟩) (c_is_folk : PySem.W.codeIn K cd_is_folk "is_folk" = true) (k_is_folk : PySem.W.keepIn K (.ref f_is_folk) = true)
    (a_must_be_folk : PySem.W.nsIn K mainGlobals "must_be_folk" = some (some (.ref f_must_be_folk))) (l_must_be_folk : K.lookup f_must_be_folk = some ⟨oc_must_be_folk, od_must_be_folk, .func (PySem.W.fnOf "must_be_folk" "must_be_folk" (defArgs (top 10)) (defBody (top 10)) (defScope (top 10)) .none kV_must_be_folk dc_must_be_folk pm_must_be_folk an_must_be_folk cd_must_be_folk ct_must_be_folk), sl_must_be_folk⟩) (c_must_be_folk : PySem.W.codeIn K cd_must_be_folk "must_be_folk" = true) (k_must_be_folk : PySem.W.keepIn K (.ref f_must_be_folk) = true)
    (a_does_fall : PySem.W.nsIn K mainGlobals "does_fall" = some (some (.ref f_does_fall))) (l_does_fall : K.lookup f_does_fall = some ⟨oc_does_fall, od_does_fall, .func (PySem.W.fnOf "does_fall" "does_fall" (defArgs (top 12)) (defBody (top 12)) (defScope (top 12)) .none kV_does_fall dc_does_fall pm_does_fall an_does_fall cd_does_fall ct_does_fall), sl_does_fall⟩) (c_does_fall : PySem.W.codeIn K cd_does_fall "does_fall" = true) (k_does_fall : PySem.W.keepIn K (.ref f_does_fall) = true)
    (a_grown : PySem.W.nsIn K mainGlobals "grown" = some (some (.ref f_grown))) (l_grown : K.lookup f_grown = some ⟨oc_grown, od_grown, .func (PySem.W.fnOf "grown" "grown" (defArgs (top 13)) (defBody (top 13)) (defScope (top 13)) .none kV_grown dc_grown pm_grown an_grown cd_grown ct_grown), sl_grown⟩) (c_grown : PySem.W.codeIn K cd_grown "grown" = true) (k_grown : PySem.W.keepIn K (.ref f_grown) = true)
    (a_lines_for : PySem.W.nsIn K mainGlobals "lines_for" = some (some (.ref f_lines_for))) (l_lines_for : K.lookup f_lines_for = some ⟨oc_lines_for, od_lines_for, .func (PySem.W.fnOf "lines_for" "lines_for" (defArgs (top 14)) (defBody (top 14)) (defScope (top 14)) .none kV_lines_for dc_lines_for pm_lines_for an_lines_for cd_lines_for ct_lines_for), sl_lines_for⟩) (c_lines_for : PySem.W.codeIn K cd_lines_for "lines_for" = true) (k_lines_for : PySem.W.keepIn K (.ref f_lines_for) = true)
    (a_all_lines : PySem.W.nsIn K mainGlobals "all_lines" = some (some (.ref f_all_lines))) (l_all_lines : K.lookup f_all_lines = some ⟨oc_all_lines, od_all_lines, .func (PySem.W.fnOf "all_lines" "all_lines" (defArgs (top 15)) (defBody (top 15)) (defScope (top 15)) .none kV_all_lines dc_all_lines pm_all_lines an_all_lines cd_all_lines ct_all_lines), sl_all_lines⟩) (c_all_lines : PySem.W.codeIn K cd_all_lines "all_lines" = true) (k_all_lines : PySem.W.keepIn K (.ref f_all_lines) = true)
    (a__law_purse : PySem.W.nsIn K mainGlobals "_law_purse" = some (some (.ref f__law_purse))) (l__law_purse : K.lookup f__law_purse = some ⟨oc__law_purse, od__law_purse, .func (PySem.W.fnOf "_law_purse" "_law_purse" (defArgs (top 17)) (defBody (top 17)) (defScope (top 17)) .none kV__law_purse dc__law_purse pm__law_purse an__law_purse cd__law_purse ct__law_purse), sl__law_purse⟩) (c__law_purse : PySem.W.codeIn K cd__law_purse "_law_purse" = true) (k__law_purse : PySem.W.keepIn K (.ref f__law_purse) = true)
    (a__law_draw : PySem.W.nsIn K mainGlobals "_law_draw" = some (some (.ref f__law_draw))) (l__law_draw : K.lookup f__law_draw = some ⟨oc__law_draw, od__law_draw, .func (PySem.W.fnOf "_law_draw" "_law_draw" (defArgs (top 18)) (defBody (top 18)) (defScope (top 18)) .none kV__law_draw dc__law_draw pm__law_draw an__law_draw cd__law_draw ct__law_draw), sl__law_draw⟩) (c__law_draw : PySem.W.codeIn K cd__law_draw "_law_draw" = true) (k__law_draw : PySem.W.keepIn K (.ref f__law_draw) = true)
    (a__law_names : PySem.W.nsIn K mainGlobals "_law_names" = some (some (.ref f__law_names))) (l__law_names : K.lookup f__law_names = some ⟨oc__law_names, od__law_names, .func (PySem.W.fnOf "_law_names" "_law_names" (defArgs (top 19)) (defBody (top 19)) (defScope (top 19)) .none kV__law_names dc__law_names pm__law_names an__law_names cd__law_names ct__law_names), sl__law_names⟩) (c__law_names : PySem.W.codeIn K cd__law_names "_law_names" = true) (k__law_names : PySem.W.keepIn K (.ref f__law_names) = true)
    (a__law_mixed : PySem.W.nsIn K mainGlobals "_law_mixed" = some (some (.ref f__law_mixed))) (l__law_mixed : K.lookup f__law_mixed = some ⟨oc__law_mixed, od__law_mixed, .func (PySem.W.fnOf "_law_mixed" "_law_mixed" (defArgs (top 20)) (defBody (top 20)) (defScope (top 20)) .none kV__law_mixed dc__law_mixed pm__law_mixed an__law_mixed cd__law_mixed ct__law_mixed), sl__law_mixed⟩) (c__law_mixed : PySem.W.codeIn K cd__law_mixed "_law_mixed" = true) (k__law_mixed : PySem.W.keepIn K (.ref f__law_mixed) = true)
    (a__law_many : PySem.W.nsIn K mainGlobals "_law_many" = some (some (.ref f__law_many))) (l__law_many : K.lookup f__law_many = some ⟨oc__law_many, od__law_many, .func (PySem.W.fnOf "_law_many" "_law_many" (defArgs (top 21)) (defBody (top 21)) (defScope (top 21)) .none kV__law_many dc__law_many pm__law_many an__law_many cd__law_many ct__law_many), sl__law_many⟩) (c__law_many : PySem.W.codeIn K cd__law_many "_law_many" = true) (k__law_many : PySem.W.keepIn K (.ref f__law_many) = true)
    (a__law_falling : PySem.W.nsIn K mainGlobals "_law_falling" = some (some (.ref f__law_falling))) (l__law_falling : K.lookup f__law_falling = some ⟨oc__law_falling, od__law_falling, .func (PySem.W.fnOf "_law_falling" "_law_falling" (defArgs (top 22)) (defBody (top 22)) (defScope (top 22)) .none kV__law_falling dc__law_falling pm__law_falling an__law_falling cd__law_falling ct__law_falling), sl__law_falling⟩) (c__law_falling : PySem.W.codeIn K cd__law_falling "_law_falling" = true) (k__law_falling : PySem.W.keepIn K (.ref f__law_falling) = true)
    (a__law_falls : PySem.W.nsIn K mainGlobals "_law_falls" = some (some (.ref f__law_falls))) (l__law_falls : K.lookup f__law_falls = some ⟨oc__law_falls, od__law_falls, .func (PySem.W.fnOf "_law_falls" "_law_falls" (defArgs (top 23)) (defBody (top 23)) (defScope (top 23)) .none kV__law_falls dc__law_falls pm__law_falls an__law_falls cd__law_falls ct__law_falls), sl__law_falls⟩) (c__law_falls : PySem.W.codeIn K cd__law_falls "_law_falls" = true) (k__law_falls : PySem.W.keepIn K (.ref f__law_falls) = true)
    (a__law_lines : PySem.W.nsIn K mainGlobals "_law_lines" = some (some (.ref f__law_lines))) (l__law_lines : K.lookup f__law_lines = some ⟨oc__law_lines, od__law_lines, .func (PySem.W.fnOf "_law_lines" "_law_lines" (defArgs (top 24)) (defBody (top 24)) (defScope (top 24)) .none kV__law_lines dc__law_lines pm__law_lines an__law_lines cd__law_lines ct__law_lines), sl__law_lines⟩) (c__law_lines : PySem.W.codeIn K cd__law_lines "_law_lines" = true) (k__law_lines : PySem.W.keepIn K (.ref f__law_lines) = true)
    (a__law_folk : PySem.W.nsIn K mainGlobals "_law_folk" = some (some (.ref f__law_folk))) (l__law_folk : K.lookup f__law_folk = some ⟨oc__law_folk, od__law_folk, .func (PySem.W.fnOf "_law_folk" "_law_folk" (defArgs (top 25)) (defBody (top 25)) (defScope (top 25)) .none kV__law_folk dc__law_folk pm__law_folk an__law_folk cd__law_folk ct__law_folk), sl__law_folk⟩) (c__law_folk : PySem.W.codeIn K cd__law_folk "_law_folk" = true) (k__law_folk : PySem.W.keepIn K (.ref f__law_folk) = true)
    (a_law : PySem.W.nsIn K mainGlobals "law" = some (some (.ref f_law))) (l_law : K.lookup f_law = some ⟨oc_law, od_law, .func (PySem.W.fnOf "law" "law" (defArgs (top 26)) (defBody (top 26)) (defScope (top 26)) .none kV_law dc_law pm_law an_law cd_law ct_law), sl_law⟩) (c_law : PySem.W.codeIn K cd_law "law" = true) (k_law : PySem.W.keepIn K (.ref f_law) = true)
    (z_isinstance : PySem.W.nsIn K mainGlobals "isinstance" = some none)
    (z_int : PySem.W.nsIn K mainGlobals "int" = some none)
    (z_bool : PySem.W.nsIn K mainGlobals "bool" = some none)
    (z_len : PySem.W.nsIn K mainGlobals "len" = some none)
    (z_list : PySem.W.nsIn K mainGlobals "list" = some none)
    (z_all : PySem.W.nsIn K mainGlobals "all" = some none)
    (z_set : PySem.W.nsIn K mainGlobals "set" = some none)
    (z_sorted : PySem.W.nsIn K mainGlobals "sorted" = some none)
    (z_min : PySem.W.nsIn K mainGlobals "min" = some none)
    (z_max : PySem.W.nsIn K mainGlobals "max" = some none)
    (z_range : PySem.W.nsIn K mainGlobals "range" = some none)
    (z_abs : PySem.W.nsIn K mainGlobals "abs" = some none)
    (g_MOST_NAMES : PySem.W.nsIn K mainGlobals "MOST_NAMES" = some (some (.int 10 t_MOST_NAMES)))
    (g_MOST_HANDS : PySem.W.nsIn K mainGlobals "MOST_HANDS" = some (some (.int 20 t_MOST_HANDS)))
    (ca_NoFolk : PySem.W.nsIn K mainGlobals "NoFolk" = some (some (.ref C_NoFolk)))
    (cb_NoFolk : PySem.W.subIn K (.ref C_NoFolk) (.type "BaseException") = some true)
    (ct_NoFolk : PySem.W.typeIn K (.ref C_NoFolk) = some (.type "type"))
    (cd_NoFolk : PySem.W.hasDictIn K C_NoFolk = true)
    (ca_FolkError : PySem.W.nsIn K mainGlobals "FolkError" = some (some (.ref C_FolkError)))
    (cb_FolkError : PySem.W.subIn K (.ref C_FolkError) (.type "BaseException") = some true)
    (ct_FolkError : PySem.W.typeIn K (.ref C_FolkError) = some (.type "type"))
    (cd_FolkError : PySem.W.hasDictIn K C_FolkError = true)
    (cx_NoFolk : PySem.W.excIn K C_NoFolk [.type "ValueError", .type "Exception", .type "BaseException", .type "object"] "ValueError.__new__" = true)
    (ck_NoFolk : PySem.W.keepIn K (.ref C_NoFolk) = true)
    (cv_NoFolk : PySem.W.subIn K (.ref C_NoFolk) (.type "ValueError") = some true)
    (cg_NoFolk : PySem.W.findIn K (.ref C_NoFolk) "__getattribute__" = some (some (.builtin "BaseException.__getattribute__")))
    (ch_NoFolk : PySem.W.findIn K (.ref C_NoFolk) "__getattr__" = some none)
    (cc_NoFolk : PySem.W.findIn K (.ref C_NoFolk) "__class__" = some (some (.builtin "object.__class__")))
    (cm_NoFolk : PySem.W.mroIn K C_NoFolk (.type "object") = some true)
    (cf_NoFolk : PySem.W.subIn K (.ref C_NoFolk) (.ref C_FolkError) = some true)
    (cp_NoFolk_NoFolk : PySem.W.subIn K (.ref C_NoFolk) (.ref C_NoFolk) = some true)
    (c0_s : PySem.W.specialIn K (.builtin "object.__class__") "__get__" = some (some (.builtin "getset_descriptor.__get__")))
    (c0_t : PySem.W.takesIn K (.builtin "object.__class__") = some true) :
    ∃ fd : FuncData, (∀ (s : Shared) (v : Value), BindsTo s fd ⟨[v], []⟩ [("_law_script", v)]) ∧ ∀ base : Heap, K.In base → base.Ns mainGlobals mg → FnG P w K mg base (L2.CX P w) 7 fa fd ["_law_script"] (spLaw K) := by
  have E_NoFolk : ExF K mg "NoFolk" := ex_mk X G ca_NoFolk cx_NoFolk ck_NoFolk cb_NoFolk ct_NoFolk cv_NoFolk cd_NoFolk cg_NoFolk ch_NoFolk cc_NoFolk cm_NoFolk c0_s c0_t
  have T : Txt K mg :=
    { b_isinstance := PySem.W.mg_none_of X G z_isinstance
      b_int := PySem.W.mg_none_of X G z_int
      b_bool := PySem.W.mg_none_of X G z_bool
      b_len := PySem.W.mg_none_of X G z_len
      b_list := PySem.W.mg_none_of X G z_list
      b_all := PySem.W.mg_none_of X G z_all
      b_set := PySem.W.mg_none_of X G z_set
      b_sorted := PySem.W.mg_none_of X G z_sorted
      b_min := PySem.W.mg_none_of X G z_min
      b_max := PySem.W.mg_none_of X G z_max
      b_range := PySem.W.mg_none_of X G z_range
      b_abs := PySem.W.mg_none_of X G z_abs
      c_MOST_NAMES := ⟨_, PySem.W.mg_of X G g_MOST_NAMES⟩
      c_MOST_HANDS := ⟨_, PySem.W.mg_of X G g_MOST_HANDS⟩
      exc := ⟨by intro n hn; rw [List.mem_singleton.mp hn]; exact E_NoFolk, by intro n hn; rw [List.mem_singleton.mp hn]; exact top_mk ca_NoFolk ca_FolkError cb_FolkError cd_FolkError ct_FolkError cf_NoFolk, by intro n hn; rw [List.mem_singleton.mp hn]; (intro m hm; rw [List.mem_singleton.mp hm]; exact two_eq), mgF_mk X G ca_FolkError⟩
      d_is_number := wr_mk X G a_is_number l_is_number c_is_number k_is_number fun _ _ _ _ _ _ us hl => match us, hl with | [_], _ => rfl
      d_are_unlike_names := wr_mk X G a_are_unlike_names l_are_unlike_names c_are_unlike_names k_are_unlike_names fun _ _ _ _ _ _ us hl => match us, hl with | [_], _ => rfl
      d_is_ranking := wr_mk X G a_is_ranking l_is_ranking c_is_ranking k_is_ranking fun _ _ _ _ _ _ us hl => match us, hl with | [_], _ => rfl
      d_is_folk := wr_mk X G a_is_folk l_is_folk c_is_folk k_is_folk fun _ _ _ _ _ _ us hl => match us, hl with | [_], _ => rfl
      d_must_be_folk := wr_mk X G a_must_be_folk l_must_be_folk c_must_be_folk k_must_be_folk fun _ _ _ _ _ _ us hl => match us, hl with | [_], _ => rfl
      d_does_fall := wr_mk X G a_does_fall l_does_fall c_does_fall k_does_fall fun _ _ _ _ _ _ us hl => match us, hl with | [_, _], _ => rfl
      d_grown := wr_mk X G a_grown l_grown c_grown k_grown fun _ _ _ _ _ _ us hl => match us, hl with | [_], _ => rfl
      d_lines_for := wr_mk X G a_lines_for l_lines_for c_lines_for k_lines_for fun _ _ _ _ _ _ us hl => match us, hl with | [_], _ => rfl
      d_all_lines := wr_mk X G a_all_lines l_all_lines c_all_lines k_all_lines fun _ _ _ _ _ _ us hl => match us, hl with | [_], _ => rfl
      d__law_purse := wr_mk X G a__law_purse l__law_purse c__law_purse k__law_purse fun _ _ _ _ _ _ us hl => match us, hl with | [_], _ => rfl
      d__law_draw := wr_mk X G a__law_draw l__law_draw c__law_draw k__law_draw fun _ _ _ _ _ _ us hl => match us, hl with | [_, _], _ => rfl
      d__law_names := wr_mk X G a__law_names l__law_names c__law_names k__law_names fun _ _ _ _ _ _ us hl => match us, hl with | [_, _], _ => rfl
      d__law_mixed := wr_mk X G a__law_mixed l__law_mixed c__law_mixed k__law_mixed fun _ _ _ _ _ _ us hl => match us, hl with | [_, _], _ => rfl
      d__law_many := wr_mk X G a__law_many l__law_many c__law_many k__law_many fun _ _ _ _ _ _ us hl => match us, hl with | [_], _ => rfl
      d__law_falling := wr_mk X G a__law_falling l__law_falling c__law_falling k__law_falling fun _ _ _ _ _ _ us hl => match us, hl with | [_, _], _ => rfl
      d__law_falls := wr_mk X G a__law_falls l__law_falls c__law_falls k__law_falls fun _ _ _ _ _ _ us hl => match us, hl with | [_, _], _ => rfl
      d__law_lines := wr_mk X G a__law_lines l__law_lines c__law_lines k__law_lines fun _ _ _ _ _ _ us hl => match us, hl with | [_], _ => rfl
      d__law_folk := wr_mk X G a__law_folk l__law_folk c__law_folk k__law_folk fun _ _ _ _ _ _ us hl => match us, hl with | [_, _], _ => rfl }
  have e := hfa.symm.trans (PySem.W.mg_of X G a_law)
  cases e
  refine ⟨PySem.W.fnOf "law" "law" (defArgs (top 26)) (defBody (top 26)) (defScope (top 26)) .none kV_law dc_law pm_law an_law cd_law ct_law, fun s v => .of_eq rfl, fun base _ _ => ?_⟩
  let cl : String → Addr := clOf K
  have q_is_number := w_is_number (P := P) (w := w) (base := base) T  
  have q_are_unlike_names := w_are_unlike_names (P := P) (w := w) (base := base) T q_is_number 
  have q_is_ranking := w_is_ranking (P := P) (w := w) (base := base) T q_are_unlike_names 
  have q_is_folk := w_is_folk (P := P) (w := w) (base := base) T q_is_ranking 
  have q_must_be_folk := w_must_be_folk (P := P) (w := w) (base := base) T q_is_folk 
  have q_does_fall := w_does_fall (P := P) (w := w) (base := base) T  
  have q_grown := w_grown (P := P) (w := w) (base := base) T  
  have qd_grown := wd_grown (P := P) (w := w) (base := base) T  
  have q_lines_for := w_lines_for (P := P) (w := w) (base := base) T q_does_fall q_grown 
  have qd_lines_for := wd_lines_for (P := P) (w := w) (base := base) T q_does_fall q_grown qd_grown
  have q_all_lines := w_all_lines (P := P) (w := w) (base := base) T q_must_be_folk q_lines_for 
  have qd_all_lines := wd_all_lines (P := P) (w := w) (base := base) T q_must_be_folk q_lines_for qd_lines_for
  have q__law_purse := w__law_purse (P := P) (w := w) (base := base) T law_purse_ok
  have q__law_draw := w__law_draw (P := P) (w := w) (base := base) T  
  have q__law_names := w__law_names (P := P) (w := w) (base := base) T q__law_draw 
  have q__law_mixed := w__law_mixed (P := P) (w := w) (base := base) T q__law_draw 
  have q__law_many := w__law_many (P := P) (w := w) (base := base) T q__law_draw 
  have q__law_falling := w__law_falling (P := P) (w := w) (base := base) T q__law_draw 
  have q__law_falls := w__law_falls (P := P) (w := w) (base := base) T  
  have q__law_lines := w__law_lines (P := P) (w := w) (base := base) T  
  have q__law_folk := w__law_folk (P := P) (w := w) (base := base) T q__law_draw q__law_mixed q__law_falling 
  exact w_law (P := P) (w := w) (base := base) T law_k12_ok q__law_purse q_all_lines q__law_draw q__law_names q__law_mixed q__law_many q__law_falls q__law_lines q__law_folk qd_all_lines (fun_mk l_law c_law k_law)
end K12
end DL
open PySem PySem.W PyProof.Rows in
set_option maxRecDepth 100000 in
set_option maxHeartbeats 0 in
theorem PySem.Challenge.cw_ontheline_k12_lines_of_a_folk_holds : PySem.Challenge.rw_ontheline_k12_lines_of_a_folk.Holds := by
  w_on; o_law; k_head; (case hw => w_witness2)
  k_fill
  refine DL.walk (l := PySem.Challenge.rw_ontheline_k12_lines_of_a_folk) (k := 7) (x := "_law_script") rfl rfl ⟨rfl, by decide, by decide⟩ (fun w h Y => PySem.W.kIn_of Y) ?F
  case F =>
    intro w mg fa h KX G hmg
    refine' DL.K12.all_mk KX G hmg ?a_is_number ?l_is_number ?c_is_number ?k_is_number ?a_are_unlike_names ?l_are_unlike_names ?c_are_unlike_names ?k_are_unlike_names ?a_is_ranking ?l_is_ranking ?c_is_ranking ?k_is_ranking ?a_is_folk ?l_is_folk ?c_is_folk ?k_is_folk ?a_must_be_folk ?l_must_be_folk ?c_must_be_folk ?k_must_be_folk ?a_does_fall ?l_does_fall ?c_does_fall ?k_does_fall ?a_grown ?l_grown ?c_grown ?k_grown ?a_lines_for ?l_lines_for ?c_lines_for ?k_lines_for ?a_all_lines ?l_all_lines ?c_all_lines ?k_all_lines ?a__law_purse ?l__law_purse ?c__law_purse ?k__law_purse ?a__law_draw ?l__law_draw ?c__law_draw ?k__law_draw ?a__law_names ?l__law_names ?c__law_names ?k__law_names ?a__law_mixed ?l__law_mixed ?c__law_mixed ?k__law_mixed ?a__law_many ?l__law_many ?c__law_many ?k__law_many ?a__law_falling ?l__law_falling ?c__law_falling ?k__law_falling ?a__law_falls ?l__law_falls ?c__law_falls ?k__law_falls ?a__law_lines ?l__law_lines ?c__law_lines ?k__law_lines ?a__law_folk ?l__law_folk ?c__law_folk ?k__law_folk ?a_law ?l_law ?c_law ?k_law ?z_isinstance ?z_int ?z_bool ?z_len ?z_list ?z_all ?z_set ?z_sorted ?z_min ?z_max ?z_range ?z_abs ?g_MOST_NAMES ?g_MOST_HANDS ?ca_NoFolk ?cb_NoFolk ?ct_NoFolk ?cd_NoFolk ?ca_FolkError ?cb_FolkError ?ct_FolkError ?cd_FolkError ?cx_NoFolk ?ck_NoFolk ?cv_NoFolk ?cg_NoFolk ?ch_NoFolk ?cc_NoFolk ?cm_NoFolk ?cf_NoFolk ?cp_NoFolk_NoFolk ?c0_s ?c0_t
    (case a_is_number => k_is)
    (case l_is_number => k_is)
    (case c_is_number => k_is)
    (case k_is_number => k_is)
    (case a_are_unlike_names => k_is)
    (case l_are_unlike_names => k_is)
    (case c_are_unlike_names => k_is)
    (case k_are_unlike_names => k_is)
    (case a_is_ranking => k_is)
    (case l_is_ranking => k_is)
    (case c_is_ranking => k_is)
    (case k_is_ranking => k_is)
    (case a_is_folk => k_is)
    (case l_is_folk => k_is)
    (case c_is_folk => k_is)
    (case k_is_folk => k_is)
    (case a_must_be_folk => k_is)
    (case l_must_be_folk => k_is)
    (case c_must_be_folk => k_is)
    (case k_must_be_folk => k_is)
    (case a_does_fall => k_is)
    (case l_does_fall => k_is)
    (case c_does_fall => k_is)
    (case k_does_fall => k_is)
    (case a_grown => k_is)
    (case l_grown => k_is)
    (case c_grown => k_is)
    (case k_grown => k_is)
    (case a_lines_for => k_is)
    (case l_lines_for => k_is)
    (case c_lines_for => k_is)
    (case k_lines_for => k_is)
    (case a_all_lines => k_is)
    (case l_all_lines => k_is)
    (case c_all_lines => k_is)
    (case k_all_lines => k_is)
    (case a__law_purse => k_is)
    (case l__law_purse => k_is)
    (case c__law_purse => k_is)
    (case k__law_purse => k_is)
    (case a__law_draw => k_is)
    (case l__law_draw => k_is)
    (case c__law_draw => k_is)
    (case k__law_draw => k_is)
    (case a__law_names => k_is)
    (case l__law_names => k_is)
    (case c__law_names => k_is)
    (case k__law_names => k_is)
    (case a__law_mixed => k_is)
    (case l__law_mixed => k_is)
    (case c__law_mixed => k_is)
    (case k__law_mixed => k_is)
    (case a__law_many => k_is)
    (case l__law_many => k_is)
    (case c__law_many => k_is)
    (case k__law_many => k_is)
    (case a__law_falling => k_is)
    (case l__law_falling => k_is)
    (case c__law_falling => k_is)
    (case k__law_falling => k_is)
    (case a__law_falls => k_is)
    (case l__law_falls => k_is)
    (case c__law_falls => k_is)
    (case k__law_falls => k_is)
    (case a__law_lines => k_is)
    (case l__law_lines => k_is)
    (case c__law_lines => k_is)
    (case k__law_lines => k_is)
    (case a__law_folk => k_is)
    (case l__law_folk => k_is)
    (case c__law_folk => k_is)
    (case k__law_folk => k_is)
    (case a_law => k_is)
    (case l_law => k_is)
    (case c_law => k_is)
    (case k_law => k_is)
    (case z_isinstance => k_is)
    (case z_int => k_is)
    (case z_bool => k_is)
    (case z_len => k_is)
    (case z_list => k_is)
    (case z_all => k_is)
    (case z_set => k_is)
    (case z_sorted => k_is)
    (case z_min => k_is)
    (case z_max => k_is)
    (case z_range => k_is)
    (case z_abs => k_is)
    (case g_MOST_NAMES => k_is)
    (case g_MOST_HANDS => k_is)
    (case ca_NoFolk => k_is)
    (case cb_NoFolk => k_is)
    (case ct_NoFolk => k_is)
    (case cd_NoFolk => k_is)
    (case ca_FolkError => k_is)
    (case cb_FolkError => k_is)
    (case ct_FolkError => k_is)
    (case cd_FolkError => k_is)
    (case cx_NoFolk => k_exc)
    (case ck_NoFolk => k_is)
    (case cv_NoFolk => k_is)
    (case cg_NoFolk => k_is)
    (case ch_NoFolk => k_is)
    (case cc_NoFolk => k_is)
    (case cm_NoFolk => k_is)
    (case cf_NoFolk => k_is)
    (case cp_NoFolk_NoFolk => k_is)
    (case c0_s => k_is)
    (case c0_t => k_is)
