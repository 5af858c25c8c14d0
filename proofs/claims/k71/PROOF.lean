import PyProof.Rows.All
import Wide.All
import OpenK.AllK
import Wide.FinOn
import HandS.ForMost
import HandS.ForSpec
import HandS.Evl
import HandS.Deep
import HandS.IsInst
import HandS.SortInts
import HandS.Style
import HandS.NoneIn
import HandS.Wide
import HandS.TupAny
import KE.DataEq
import KE.SortCalls
import HandS.Remove
import HandS.SetFor
import HandS.Strs
import HandS.Conv
import PyProof.StrLawsRepr
import HandS.ExcIs
import HandS.ExcOwn
import HandS.ExcValue
import HandS.Text
import HandS.TupSets
import KE.KDictZip
import PySem.Challenge.RW_ontheline_k71_whole_rankings_on_trees
set_option Elab.async false
set_option linter.all false
set_option maxRecDepth 100000
set_option maxHeartbeats 4000000
/-! DL: a layer of values over the layer of heaps -/
noncomputable section
namespace DL
open PySem L2
open Evl (Ex)

/-! ### data -/
structure Exn where
  name : String
  arg : Option PyData
/-- other things that are known: a dict of data, an exception, a set of ints -/
inductive OD where
  | dict (kvs : List (Key × PyData)) | exc (x : Exn) | set (S : Int → Bool) (n : Nat) | scr (ns : List Int)
inductive R where
  | val (d : PyData) | new (ds : List PyData) | slot (i : Nat) | raw (v : V) | ob (o : OD)
inductive Sl where
  | no | val (d : PyData) | own (ds : List PyData) | raw (v : V) | ob (o : OD)
abbrev Pw := Option (Addr × Addr × List Int × Int)
structure DSt where
  d : List Sl
  w : Pw
inductive Res (α : Type) where
  | ok (a : α) (s : DSt) | err (x : Exn) (s : DSt) | stuck
inductive Flow where
  | next (s : DSt) | ret (r : R) (s : DSt) | brk (s : DSt) | cnt (s : DSt) | err (x : Exn) (s : DSt) | stuck
inductive FRes where
  | ok (r : R) (w : Pw) | err (x : Exn) (w : Pw) | stuck

abbrev M (α : Type) := DSt → Res α
/-- bounds, kept shut: the kernel must not count up to them -/
def inB (j : Int) : Prop := -(2 ^ 62) ≤ j ∧ j < 2 ^ 62
instance (j : Int) : Decidable (inB j) := Classical.propDecidable _
def inW (j : Int) : Prop := -(2 ^ 63) ≤ j ∧ j < 2 ^ 63
instance (j : Int) : Decidable (inW j) := Classical.propDecidable _
def leS (n : Nat) : Prop := n ≤ sizeLine
instance (n : Nat) : Decidable (leS n) := Classical.propDecidable _
def ltS (n : Nat) : Prop := n < sizeLine
instance (n : Nat) : Decidable (ltS n) := Classical.propDecidable _
def lgM (a b : Int) : Prop := a.natAbs.log2 + b.natAbs.log2 < 1000000
instance (a b : Int) : Decidable (lgM a b) := Classical.propDecidable _
def lgD (a : Int) : Prop := a.natAbs.log2 < 9000
instance (a : Int) : Decidable (lgD a) := Classical.propDecidable _
def lgP (a : Int) : Prop := a.natAbs.log2 < 4000
instance (a : Int) : Decidable (lgP a) := Classical.propDecidable _
def leP (a : Int) : Prop := a ≤ 30000
instance (a : Int) : Decidable (leP a) := Classical.propDecidable _
def Res.bind {α β : Type} (r : Res α) (g : α → M β) : Res β := match r with
  | .ok a s => g a s
  | .err x s => .err x s
  | .stuck => .stuck
def bnd {α β : Type} (f : M α) (g : α → M β) : M β := fun s => (f s).bind g
def ret {α : Type} (a : α) : M α := fun s => .ok a s
def stk {α : Type} : M α := fun _ => .stuck
@[simp] theorem bnd_app {α β : Type} (f : M α) (g : α → M β) (s : DSt) : bnd f g s = (f s).bind g := rfl
@[simp] theorem bind_ok {α β : Type} (a : α) (s : DSt) (g : α → M β) : (Res.ok a s).bind g = g a s := rfl
@[simp] theorem bind_err {α β : Type} (x : Exn) (s : DSt) (g : α → M β) : (Res.err x s : Res α).bind g = .err x s := rfl
@[simp] theorem bind_stuck {α β : Type} (g : α → M β) : (Res.stuck : Res α).bind g = .stuck := rfl
@[simp] theorem ret_app {α : Type} (a : α) (s : DSt) : ret a s = .ok a s := rfl
@[simp] theorem stk_app {α : Type} (s : DSt) : (stk s : Res α) = .stuck := rfl

/-! ### data as it stands in a heap -/
mutual
inductive Rp (K : PySem.W.Frag) (H : Hp) : V → PyData → Prop
  | non : Rp K H .non .none
  | bl (b : Bool) : Rp K H (.bl b) (.bool b)
  | int (i : Int) : Rp K H (.int i) (.int i)
  | str (x : Str) : Rp K H (.str x) (.str x)
  | lst {a : Addr} {xs : List V} {ds : List PyData} : H a = some (.lst xs) → RpAll K H xs ds → Rp K H (.ref a) (.list ds)
  | tup {a : Addr} {xs : List V} {ds : List PyData} : SqT K H a xs → RpAll K H xs ds → Rp K H (.ref a) (.tuple ds)
inductive RpAll (K : PySem.W.Frag) (H : Hp) : List V → List PyData → Prop
  | nil : RpAll K H [] []
  | cons {v : V} {vs : List V} {d : PyData} {ds : List PyData} : Rp K H v d → RpAll K H vs ds → RpAll K H (v :: vs) (d :: ds)
end
mutual
theorem rp_dp {K : PySem.W.Frag} {H : Hp} : ∀ (d : PyData) (v : V), Rp K H v d → Dp K H v d
  | .none, _, h => by cases h; exact .non
  | .bool b, _, h => by cases h; exact .bl b
  | .int i, _, h => by cases h; exact .int i
  | .str x, _, h => by cases h; exact .str x
  | .list ds, _, h => by
    cases h with
    | lst hs ha => exact .lst (.of hs) (rps_dps ds _ ha)
  | .tuple ds, _, h => by
    cases h with
    | tup hs ha => exact .tup hs (rps_dps ds _ ha)
  | .dict _, _, h => by cases h
theorem rps_dps {K : PySem.W.Frag} {H : Hp} : ∀ (ds : List PyData) (vs : List V), RpAll K H vs ds → DpAll K H vs ds
  | [], _, h => by cases h; exact .nil
  | d :: ds, _, h => by
    cases h with
    | cons h1 h2 => exact .cons (rp_dp d _ h1) (rps_dps ds _ h2)
end
mutual
theorem rp_plain {K : PySem.W.Frag} {H : Hp} : ∀ (d : PyData) (v : V), Rp K H v d → d.plain = true
  | .none, _, _ => rfl
  | .bool b, _, _ => rfl
  | .int i, _, _ => rfl
  | .str x, _, _ => rfl
  | .list ds, _, h => by
    cases h with
    | lst hs ha => simp only [PyData.plain]; exact rps_plain ds _ ha
  | .tuple ds, _, h => by
    cases h with
    | tup hs ha => simp only [PyData.plain]; exact rps_plain ds _ ha
  | .dict _, _, h => by cases h
theorem rps_plain {K : PySem.W.Frag} {H : Hp} : ∀ (ds : List PyData) (vs : List V), RpAll K H vs ds → PyData.plainAll ds = true
  | [], _, h => rfl
  | d :: ds, _, h => by
    cases h with
    | cons h1 h2 => simp [PyData.plainAll, rp_plain d _ h1, rps_plain ds _ h2]
end
mutual
theorem dp_mono {K : PySem.W.Frag} {H H' : Hp} (e : Ex H H') : ∀ (d : PyData) (v : V), Rp K H v d → Rp K H' v d
  | .none, _, h => by cases h; exact .non
  | .bool b, _, h => by cases h; exact .bl b
  | .int i, _, h => by cases h; exact .int i
  | .str x, _, h => by cases h; exact .str x
  | .list ds, _, h => by
    cases h with
    | lst hs ha => exact .lst (e _ _ hs) (dps_mono e ds _ ha)
  | .tuple ds, _, h => by
    cases h with
    | tup hs ha => exact .tup (Evl.ex_t e hs) (dps_mono e ds _ ha)
  | .dict _, _, h => by cases h
theorem dps_mono {K : PySem.W.Frag} {H H' : Hp} (e : Ex H H') : ∀ (ds : List PyData) (vs : List V), RpAll K H vs ds → RpAll K H' vs ds
  | [], _, h => by cases h; exact .nil
  | d :: ds, _, h => by
    cases h with
    | cons h1 h2 => exact .cons (dp_mono e d _ h1) (dps_mono e ds _ h2)
end
theorem dps_len {K : PySem.W.Frag} {H : Hp} : ∀ {ds : List PyData} {vs : List V}, RpAll K H vs ds → vs.length = ds.length
  | [], _, h => by cases h; rfl
  | d :: ds, _, h => by
    cases h with
    | cons h1 h2 => simp [dps_len h2]
theorem dps_get {K : PySem.W.Frag} {H : Hp} : ∀ {ds : List PyData} {vs : List V} {i : Nat} {v : V}, RpAll K H vs ds → vs[i]? = some v → ∃ d, ds[i]? = some d ∧ Rp K H v d
  | [], _, i, v, h, e => by cases h; simp at e
  | d :: ds, _, 0, v, h, e => by
    cases h with
    | cons h1 h2 => simp at e; subst e; exact ⟨d, rfl, h1⟩
  | d :: ds, _, i + 1, v, h, e => by
    cases h with
    | cons h1 h2 => simpa using dps_get (i := i) h2 (by simpa using e)
theorem dps_app {K : PySem.W.Frag} {H : Hp} : ∀ {ds es : List PyData} {vs us : List V}, RpAll K H vs ds → RpAll K H us es → RpAll K H (vs ++ us) (ds ++ es)
  | [], _, _, _, h, h' => by cases h; exact h'
  | d :: ds, _, _, _, h, h' => by
    cases h with
    | cons h1 h2 => exact .cons h1 (dps_app h2 h')
theorem dps_rev {K : PySem.W.Frag} {H : Hp} : ∀ {ds : List PyData} {vs : List V}, RpAll K H vs ds → RpAll K H vs.reverse ds.reverse
  | [], _, h => by cases h; exact .nil
  | d :: ds, _, h => by
    cases h with
    | cons h1 h2 => simp only [List.reverse_cons]; exact dps_app (dps_rev h2) (.cons h1 .nil)
theorem dps_take {K : PySem.W.Frag} {H : Hp} : ∀ {ds : List PyData} {vs : List V} (n : Nat), RpAll K H vs ds → RpAll K H (vs.take n) (ds.take n)
  | _, _, 0, _ => by simp; exact .nil
  | [], _, n + 1, h => by cases h; exact .nil
  | d :: ds, _, n + 1, h => by
    cases h with
    | cons h1 h2 => exact .cons h1 (dps_take n h2)
theorem dps_drop {K : PySem.W.Frag} {H : Hp} : ∀ {ds : List PyData} {vs : List V} (n : Nat), RpAll K H vs ds → RpAll K H (vs.drop n) (ds.drop n)
  | _, _, 0, h => by simpa using h
  | [], _, n + 1, h => by cases h; exact .nil
  | d :: ds, _, n + 1, h => by
    cases h with
    | cons h1 h2 => exact dps_drop n h2
theorem dps_set {K : PySem.W.Frag} {H : Hp} {v : V} {d : PyData} (q : Rp K H v d) : ∀ {ds : List PyData} {vs : List V} (n : Nat), RpAll K H vs ds → RpAll K H (vs.set n v) (ds.set n d)
  | [], _, n, h => by cases h; exact .nil
  | _ :: ds, _, 0, h => by
    cases h with
    | cons h1 h2 => exact .cons q h2
  | _ :: ds, _, n + 1, h => by
    cases h with
    | cons h1 h2 => exact .cons h1 (dps_set q n h2)
theorem dps_erase {K : PySem.W.Frag} {H : Hp} : ∀ {ds : List PyData} {vs : List V} (n : Nat), RpAll K H vs ds → RpAll K H (vs.eraseIdx n) (ds.eraseIdx n)
  | [], _, n, h => by cases h; exact .nil
  | _ :: ds, _, 0, h => by
    cases h with
    | cons h1 h2 => exact h2
  | _ :: ds, _, n + 1, h => by
    cases h with
    | cons h1 h2 => exact .cons h1 (dps_erase n h2)

/-! ### other things -/
/-- the class of a name, as the written part has it -/
def clOf (K : PySem.W.Frag) (n : String) : Addr := match PySem.W.nsIn K mainGlobals (Str.ofString n) with
  | some (some (.ref a)) => a
  | _ => 0
theorem clOf_of {K : PySem.W.Frag} {n : String} {a : Addr} (h : PySem.W.nsIn K mainGlobals (Str.ofString n) = some (some (.ref a))) : clOf K n = a := by
  unfold clOf
  rw [h]
/-- the field of an exception that bears its argument -/
def fieldOf (n : String) : Str := if n = "NoFall" then "hand" else "at"
def ExA (K : PySem.W.Frag) (H : Hp) (n : String) (d : Option Addr) : Option PyData → Prop
  | none => d = none
  | some e => ∃ dd v, d = some dd ∧ H dd = some (.xd [(fieldOf n, v)]) ∧ Rp K H v e
/-- a caught exception -/
def excO (a : Addr) (cls : Value) (d : Option Addr) : HO := .ext fun h => ∃ o, h.get? a = some o ∧ Zc cls d o ∧ ∃ vs, o.data = .fields vs
inductive KRp (K : PySem.W.Frag) (H : Hp) : List (Key × V) → List (Key × PyData) → Prop
  | nil : KRp K H [] []
  | cons {k : Key} {v : V} {d : PyData} {xs : List (Key × V)} {ys : List (Key × PyData)} : Rp K H v d → KRp K H xs ys → KRp K H ((k, v) :: xs) ((k, d) :: ys)
def ObRel (K : PySem.W.Frag) (H : Hp) (v : V) : OD → Prop
  | .dict kvs => ∃ a vs, v = .ref a ∧ H a = some (.dK vs) ∧ KRp K H vs kvs
  | .exc x => ∃ a d, v = .ref a ∧ H a = some (excO a (.ref (clOf K x.name)) d) ∧ ExA K H x.name d x.arg
  | .set S n => ∃ a, v = .ref a ∧ H a = some (.set S n)
  | .scr ns => ∃ a, v = .ref a ∧ SqL K H a (ns.map V.int)
theorem krp_mono {K : PySem.W.Frag} {H H' : Hp} (e : Ex H H') : ∀ {vs : List (Key × V)} {kvs : List (Key × PyData)}, KRp K H vs kvs → KRp K H' vs kvs
  | _, _, .nil => .nil
  | _, _, .cons h t => .cons (dp_mono e _ _ h) (krp_mono e t)
theorem exa_mono {K : PySem.W.Frag} {H H' : Hp} (e : Ex H H') {n : String} {d : Option Addr} : ∀ {o : Option PyData}, ExA K H n d o → ExA K H' n d o
  | none, h => h
  | some x, ⟨dd, v, h1, h2, h3⟩ => ⟨dd, v, h1, e _ _ h2, dp_mono e _ _ h3⟩
theorem ob_mono {K : PySem.W.Frag} {H H' : Hp} (e : Ex H H') {v : V} : ∀ {o : OD}, ObRel K H v o → ObRel K H' v o
  | .dict kvs, ⟨a, vs, h1, h2, h3⟩ => ⟨a, vs, h1, e _ _ h2, krp_mono e h3⟩
  | .exc x, ⟨a, d, h1, h2, h3⟩ => ⟨a, d, h1, e _ _ h2, exa_mono e h3⟩
  | .set S n, ⟨a, h1, h2⟩ => ⟨a, h1, e _ _ h2⟩
  | .scr ns, ⟨a, h1, h2⟩ => ⟨a, h1, Evl.ex_l e h2⟩

/-! ### the state -/
def POwn (w : Pw) (a : Addr) : Prop := match w with
  | none => False
  | some (pa, ca, _, _) => a = pa ∨ a = ca
def OwnAt (s : DSt) (σ : L2.St) (i : Nat) (a : Addr) : Prop := (∃ ds, s.d[i]? = some (.own ds)) ∧ σ[i]? = some (some (.ref a))
def Own (s : DSt) (σ : L2.St) (a : Addr) : Prop := (∃ i, OwnAt s σ i a) ∨ POwn s.w a
/-- what lies at a purse: another list and a number; or, where both addresses are one, the numbers themselves -/
def pwA (pa ca : Addr) (cells : List Int) (t : Int) : List V := if pa = ca then cells.map .int else [.ref ca, .int t]
def PwOk (G : Hp) (w : Pw) (H : Hp) : Prop := match w with
  | none => True
  | some (pa, ca, cells, t) => True ∧ H pa = some (.lst (pwA pa ca cells t)) ∧ H ca = some (.lst (cells.map .int)) ∧ G pa = none ∧ G ca = none
def SlOk (K : PySem.W.Frag) (G H : Hp) (x : Option V) : Sl → Prop
  | .no => True
  | .val d => ∃ v, x = some v ∧ Rp K G v d
  | .raw v => x = some v
  | .ob o => ∃ v, x = some v ∧ ObRel K G v o
  | .own ds => ∃ a xs, x = some (.ref a) ∧ H a = some (.lst xs) ∧ RpAll K G xs ds
structure SA (K : PySem.W.Frag) (G : Hp) (s : DSt) (σ : L2.St) (H : Hp) : Prop where
  len : s.d.length = σ.length
  gh : Ex G H
  slot : ∀ (i : Nat) (sl : Sl), s.d[i]? = some sl → SlOk K G H (σ[i]?.join) sl
  inj : ∀ i j a, OwnAt s σ i a → OwnAt s σ j a → i = j
  ownG : ∀ i a, OwnAt s σ i a → G a = none
  pw : PwOk G s.w H
  pne : ∀ i a, OwnAt s σ i a → ¬ POwn s.w a
/-- what a piece of code may have done -/
structure Stp (G : Hp) (s : DSt) (σ : L2.St) (H : Hp) (G' : Hp) (s' : DSt) (σ' : L2.St) (H' : Hp) : Prop where
  ex : Ex G G'
  keep : ∀ a o, H a = some o → ¬ Own s σ a → H' a = some o ∧ G' a = G a
  own : ∀ a, Own s' σ' a → Own s σ a ∨ H a = none
  dom : ∀ a, H a ≠ none → H' a ≠ none
  pw : ∀ a, POwn s.w a → POwn s'.w a
theorem Stp.refl {G H : Hp} {s : DSt} {σ : L2.St} : Stp G s σ H G s σ H := ⟨Ex.refl G, fun _ _ h _ => ⟨h, rfl⟩, fun _ h => .inl h, fun _ h => h, fun _ h => h⟩
theorem Stp.trans {G G1 G2 H H1 H2 : Hp} {s s1 s2 : DSt} {σ σ1 σ2 : L2.St} (a : Stp G s σ H G1 s1 σ1 H1) (b : Stp G1 s1 σ1 H1 G2 s2 σ2 H2) : Stp G s σ H G2 s2 σ2 H2 where
  ex := a.ex.trans b.ex
  keep := fun x o h n => by
    obtain ⟨h1, g1⟩ := a.keep x o h n
    have n1 : ¬ Own s1 σ1 x := fun z => (a.own x z).elim n fun e => by rw [h] at e; cases e
    obtain ⟨h2, g2⟩ := b.keep x o h1 n1
    exact ⟨h2, g2.trans g1⟩
  own := fun x z => (b.own x z).elim (a.own x) fun e => .inr (Classical.byContradiction fun q => a.dom x q e)
  dom := fun x h => b.dom x (a.dom x h)
  pw := fun x h => b.pw x (a.pw x h)
/-- what a result is -/
def RRel (K : PySem.W.Frag) (H0 G : Hp) (s : DSt) (σ : L2.St) (H : Hp) (v : V) : R → Prop
  | .val d => Rp K G v d
  | .raw u => v = u
  | .ob o => ObRel K G v o
  | .slot i => σ[i]? = some (some v)
  | .new ds => ∃ a xs, v = .ref a ∧ H a = some (.lst xs) ∧ RpAll K G xs ds ∧ G a = none ∧ H0 a = none ∧ ¬ Own s σ a
theorem RRel.mono {K : PySem.W.Frag} {H0 G H G' H' : Hp} {s s' : DSt} {σ : L2.St} {v : V} {r : R} (h : RRel K H0 G s σ H v r) (t : Stp G s σ H G' s' σ H') : RRel K H0 G' s' σ H' v r := by
  cases r with
  | val d => exact dp_mono t.ex d v h
  | raw u => exact h
  | ob o => exact ob_mono t.ex h
  | slot i => exact h
  | new ds =>
    obtain ⟨a, xs, e, ha, hd, hg, h0, hn⟩ := h
    obtain ⟨h1, g1⟩ := t.keep a _ ha hn
    refine ⟨a, xs, e, h1, dps_mono t.ex _ _ hd, g1.trans hg, h0, fun z => (t.own a z).elim hn fun q => by rw [ha] at q; cases q⟩
theorem RRel.less {K : PySem.W.Frag} {H0 H1 G H : Hp} {s : DSt} {σ : L2.St} {v : V} {r : R} (h : RRel K H1 G s σ H v r) (d : ∀ a, H0 a ≠ none → H1 a ≠ none) : RRel K H0 G s σ H v r := by
  cases r with
  | val d => exact h
  | raw u => exact h
  | ob o => exact h
  | slot i => exact h
  | new ds =>
    obtain ⟨a, xs, e, ha, hd, hg, h0, hn⟩ := h
    exact ⟨a, xs, e, ha, hd, hg, Classical.byContradiction fun q => d a q h0, hn⟩
/-- the content of a result now -/
def look (r : R) (s : DSt) : Option PyData := match r with
  | .val d => some d
  | .raw _ => none
  | .ob _ => none
  | .new ds => some (.list ds)
  | .slot i => match s.d[i]? with
    | some (.own ds) => some (.list ds)
    | some (.val d) => some d
    | _ => none
theorem look_ok {K : PySem.W.Frag} {H0 G H : Hp} {s : DSt} {σ : L2.St} {v : V} {r : R} {d : PyData} (S : SA K G s σ H) (h : RRel K H0 G s σ H v r) (e : look r s = some d) : Rp K H v d := by
  cases r with
  | val d' => cases e; exact dp_mono S.gh _ _ h
  | raw u => cases e
  | ob o => cases e
  | new ds =>
    cases e
    obtain ⟨a, xs, rfl, ha, hd, _⟩ := h
    exact .lst ha (dps_mono S.gh _ _ hd)
  | slot i =>
    simp only [look] at e
    have h' : σ[i]? = some (some v) := h
    split at e
    · rename_i ds q
      cases e
      obtain ⟨a, xs, e1, ha, hd⟩ := S.slot i _ q
      rw [h'] at e1
      cases e1
      exact .lst ha (dps_mono S.gh _ _ hd)
    · rename_i d' q
      cases e
      obtain ⟨u, e1, hd⟩ := S.slot i _ q
      rw [h'] at e1
      cases e1
      exact dp_mono S.gh _ _ hd
    · cases e
end DL

/-! DL2: the judgements -/
noncomputable section
namespace DL
open PySem L2
open Evl (Ex)

def XRel (K : PySem.W.Frag) (cl : String → Addr) (x : Exn) (cls : Value) (d : Option Addr) (H : Hp) : Prop :=
  cls = .ref (cl x.name) ∧ ExA K H x.name d x.arg
section
variable (K : PySem.W.Frag) (cl : String → Addr) (W : WX)
def Out {α : Type} (G : Hp) (s : DSt) (σ : L2.St) (H : Hp) (r : Res α) (k : α → Hp → DSt → Hp → Prop) : Prop := match r with
  | .ok a s' => ∀ G' H', Stp G s σ H G' s' σ H' → SA K G' s' σ H' → k a G' s' H'
  | .err x s' => ∀ cls d G' H', Stp G s σ H G' s' σ H' → SA K G' s' σ H' → XRel K cl x cls d H' → W cls d σ H'
  | .stuck => False
def tD (f : M R) : TE := fun σ H Q => ∃ G s, SA K G s σ H ∧ Out K cl W G s σ H (f s) fun r G' s' H' => ∀ v, RRel K H G' s' σ H' v r → Q v H'
def tT (f : M Bool) : TT := fun σ H Q => ∃ G s, SA K G s σ H ∧ Out K cl W G s σ H (f s) fun b _ _ H' => Q b H'
def RRels (H0 G : Hp) (s : DSt) (σ : L2.St) (H : Hp) : List V → List R → Prop := Paired fun v r => RRel K H0 G s σ H v r
def tA (f : M (List R)) : TA := fun σ H Q => ∃ G s, SA K G s σ H ∧ Out K cl W G s σ H (f s) fun rs G' s' H' => ∀ vs, RRels K H G' s' σ H' vs rs → Q vs H'
def FOut (G : Hp) (s : DSt) (σ : L2.St) (H : Hp) (fl : Flow) (D : Ends) : Prop := match fl with
  | .next s' => ∀ G' σ' H', Stp G s σ H G' s' σ' H' → SA K G' s' σ' H' → D.nx σ' H'
  | .brk s' => ∀ G' σ' H', Stp G s σ H G' s' σ' H' → SA K G' s' σ' H' → D.bk σ' H'
  | .cnt s' => ∀ G' σ' H', Stp G s σ H G' s' σ' H' → SA K G' s' σ' H' → D.ct σ' H'
  | .ret r s' => ∀ v G' σ' H', Stp G s σ H G' s' σ' H' → SA K G' s' σ' H' → RRel K H G' s' σ' H' v r → D.rt v H'
  | .err x s' => ∀ cls d G' σ' H', Stp G s σ H G' s' σ' H' → SA K G' s' σ' H' → XRel K cl x cls d H' → W cls d σ' H'
  | .stuck => False
def tS (f : DSt → Flow) : TS := fun D σ H => ∃ G s, SA K G s σ H ∧ FOut K cl W G s σ H (f s) D
end
section
variable {K : PySem.W.Frag} {cl : String → Addr} {W : WX} {G H : Hp} {s : DSt} {σ : L2.St}
theorem out_mono {α : Type} {r : Res α} {k k' : α → Hp → DSt → Hp → Prop} (h : Out K cl W G s σ H r k) (i : ∀ a G' s' H', Stp G s σ H G' s' σ H' → SA K G' s' σ H' → k a G' s' H' → k' a G' s' H') : Out K cl W G s σ H r k' := by
  cases r with
  | ok a s' => exact fun G' H' st sa => i a G' s' H' st sa (h G' H' st sa)
  | err x s' => exact h
  | stuck => exact h
theorem out_bind {α β : Type} {r : Res α} {g : α → M β} {k : β → Hp → DSt → Hp → Prop} (h : Out K cl W G s σ H (r.bind g) k) :
    Out K cl W G s σ H r fun a G1 s1 H1 => Out K cl W G1 s1 σ H1 (g a s1) fun b G2 s2 H2 => k b G2 s2 H2 := by
  cases r with
  | ok a s' =>
    intro G1 H1 st sa
    have h : Out K cl W G s σ H (g a s') k := h
    cases e : g a s' with
    | ok b s2 => rw [e] at h; exact fun G2 H2 st2 sa2 => h G2 H2 (st.trans st2) sa2
    | err x s2 => rw [e] at h; exact fun c d G2 H2 st2 sa2 xr => h c d G2 H2 (st.trans st2) sa2 xr
    | stuck => rw [e] at h; exact h
  | err x s' => exact h
  | stuck => exact h
theorem out_ret {α : Type} {a : α} {k : α → Hp → DSt → Hp → Prop} (S : SA K G s σ H) (h : Out K cl W G s σ H (.ok a s) k) : k a G s H := h G H Stp.refl S
theorem tD_of {f : M R} {Q : VK} (S : SA K G s σ H) (h : Out K cl W G s σ H (f s) fun r G' s' H' => ∀ v, RRel K H G' s' σ H' v r → Q v H') : tD K cl W f σ H Q := ⟨G, s, S, h⟩
/-- the wish with an older start -/
theorem out_less {f : Res R} {H0 : Hp} {Q : VK} (dm : ∀ a, H0 a ≠ none → H a ≠ none) (h : Out K cl W G s σ H f fun r G' s' H' => ∀ v, RRel K H0 G' s' σ H' v r → Q v H') :
    Out K cl W G s σ H f fun r G' s' H' => ∀ v, RRel K H G' s' σ H' v r → Q v H' := out_mono h fun _ _ _ _ _ _ k v q => k v (q.less dm)
end
section
variable {X : Cx} {cl : String → Addr} {W : WX}
theorem pe_imp {e : Expr} {t t' : TE} (h : PE X e t) (i : ∀ σ H Q, t' σ H Q → t σ H Q) : PE X e t' := ⟨fun pins s σ H Q I q => h.run pins s σ H Q I (i σ H Q q)⟩
theorem pt_imp {e : Expr} {t t' : TT} (h : PT X e t) (i : ∀ σ H Q, t' σ H Q → t σ H Q) : PT X e t' := ⟨fun pins s σ H Q I q => h.run pins s σ H Q I (i σ H Q q)⟩
theorem pw_imp {e : Expr} {t t' : TT} (h : PW X e t) (i : ∀ σ H Q, t' σ H Q → t σ H Q) : PW X e t' := ⟨fun wh pins s σ H Q I q => h.run wh pins s σ H Q I (i σ H Q q)⟩
theorem pa_imp {es : List Expr} {t t' : TA} (h : PA X es t) (i : ∀ σ H Q, t' σ H Q → t σ H Q) : PA X es t' := ⟨fun pos pins s σ H Q I q => h.run pos pins s σ H Q I (i σ H Q q)⟩
theorem ps_imp {st : Stmt} {t t' : TS} (h : PS X st t) (i : ∀ D σ H, t' D σ H → t D σ H) : PS X st t' := ⟨fun pins s σ H D I q => h.run pins s σ H D I (i D σ H q)⟩
theorem pss_imp {st : List Stmt} {t t' : TS} (h : PSs X st t) (i : ∀ D σ H, t' D σ H → t D σ H) : PSs X st t' := ⟨fun pins s σ H D I q => h.run pins s σ H D I (i D σ H q)⟩
abbrev DE (X : Cx) (cl : String → Addr) (W : WX) (e : Expr) (f : M R) : Prop := PE X e (tD X.K cl W f)
abbrev DT (X : Cx) (cl : String → Addr) (W : WX) (e : Expr) (f : M Bool) : Prop := PT X e (tT X.K cl W f)
abbrev DW (X : Cx) (cl : String → Addr) (W : WX) (e : Expr) (f : M Bool) : Prop := PW X e (tT X.K cl W f)
abbrev DA (X : Cx) (cl : String → Addr) (W : WX) (es : List Expr) (f : M (List R)) : Prop := PA X es (tA X.K cl W f)
abbrev DS (X : Cx) (cl : String → Addr) (W : WX) (st : Stmt) (f : DSt → Flow) : Prop := PS X st (tS X.K cl W f)
abbrev DSs (X : Cx) (cl : String → Addr) (W : WX) (st : List Stmt) (f : DSt → Flow) : Prop := PSs X st (tS X.K cl W f)

/-! ### names, constants -/
def fVar (i : Nat) : M R := fun s => match s.d[i]? with
  | some (.val d) => .ok (.val d) s
  | some (.raw v) => .ok (.raw v) s
  | some (.ob o) => .ok (.ob o) s
  | some (.own _) => .ok (.slot i) s
  | _ => .stuck
theorem d_var (i : Nat) {x : Str} {pos : Pos} (hN : X.N[i]? = some x := by rfl) (hv : Vis X.env.scope x := by first | exact Or.inl rfl | exact Or.inr (Or.inl rfl) | exact Or.inr (Or.inr rfl)) (hd : (x == ("__debug__" : Str)) = false := by decide)
    (hcd : (x == ("__classdict__" : Str)) = false := by decide) : DE X cl W (.Name x pos) (fVar i) := by
  refine pe_imp (pe_var hN hv hd hcd) fun σ H Q ⟨G, s, S, h⟩ => ?_
  unfold fVar at h
  split at h
  · rename_i d q
    obtain ⟨v, e, hd⟩ := S.slot i _ q
    have e' : σ[i]? = some (some v) := by
      cases z : σ[i]? with
      | none => rw [z] at e; cases e
      | some o => rw [z] at e; simp at e; rw [e]
    exact ⟨v, e', h G H Stp.refl S v hd⟩
  · rename_i u q
    have e : σ[i]?.join = some u := S.slot i _ q
    have e' : σ[i]? = some (some u) := by
      cases z : σ[i]? with
      | none => rw [z] at e; cases e
      | some o => rw [z] at e; simp at e; rw [e]
    exact ⟨u, e', h G H Stp.refl S u rfl⟩
  · rename_i o q
    obtain ⟨v, e, hd⟩ := S.slot i _ q
    have e' : σ[i]? = some (some v) := by
      cases z : σ[i]? with
      | none => rw [z] at e; cases e
      | some o => rw [z] at e; simp at e; rw [e]
    exact ⟨v, e', h G H Stp.refl S v hd⟩
  · rename_i ds q
    obtain ⟨a, xs, e, ha, hd⟩ := S.slot i _ q
    have e' : σ[i]? = some (some (.ref a)) := by
      cases z : σ[i]? with
      | none => rw [z] at e; cases e
      | some o => rw [z] at e; simp at e; rw [e]
    exact ⟨_, e', h G H Stp.refl S _ e'⟩
  · exact h.elim
def fC (d : PyData) : M R := ret (.val d)
theorem d_c {e : Expr} {d : PyData} {v : V} (hd : ∀ G, Rp X.K G v d) (h : PE X e (tC v)) : DE X cl W e (fC d) :=
  pe_imp h fun σ H Q ⟨G, s, S, q⟩ => q G H Stp.refl S v (hd G)
theorem d_int {i j pos} : DE X cl W (.Constant (.int i) j pos) (fC (.int i)) := d_c (fun _ => .int i) pe_int
theorem d_bl {b j pos} : DE X cl W (.Constant (.bool b) j pos) (fC (.bool b)) := d_c (fun _ => .bl b) pe_bl
theorem d_non {j pos} : DE X cl W (.Constant .none j pos) (fC .none) := d_c (fun _ => .non) pe_non
theorem d_str {x j pos} : DE X cl W (.Constant (.str x) j pos) (fC (.str x)) := d_c (fun _ => .str x) pe_str
theorem d_globI {x : Str} {i : Int} {t : Tok} {pos : Pos} (hg : Gl X x) (hm : X.mg x = some (.int i t)) (hd : (x == ("__debug__" : Str)) = false := by decide) : DE X cl W (.Name x pos) (fC (.int i)) := d_c (fun _ => .int i) (pe_glob (v := .int i) hg hm ⟨t, rfl⟩ hd)
theorem d_globS {x : Str} {i : Str} {t : Tok} {pos : Pos} (hg : Gl X x) (hm : X.mg x = some (.str i t)) (hd : (x == ("__debug__" : Str)) = false := by decide) : DE X cl W (.Name x pos) (fC (.str i)) := d_c (fun _ => .str i) (pe_glob (v := .str i) hg hm ⟨t, rfl⟩ hd)
def fRaw (v : V) : M R := ret (.raw v)
theorem d_raw {e : Expr} {v : V} (h : PE X e (tC v)) : DE X cl W e (fRaw v) := pe_imp h fun σ H Q ⟨G, s, S, q⟩ => q G H Stp.refl S v rfl
theorem d_bltn {x : Str} {v : V} {u : Value} {pos : Pos} (hg : Gl X x) (hm : X.mg x = none) (hv : bootBuiltins x = some u) (r : RelV v u) (hn : x ≠ "__name__" := by decide) (hd : (x == ("__debug__" : Str)) = false := by decide) : DE X cl W (.Name x pos) (fRaw v) := d_raw (pe_bltn hg hm hv r hn hd)
theorem d_globR {x : Str} {v : V} {u : Value} {pos : Pos} (hg : Gl X x) (hm : X.mg x = some u) (r : RelV v u) (hd : (x == ("__debug__" : Str)) = false := by decide) : DE X cl W (.Name x pos) (fRaw v) := d_raw (pe_glob hg hm r hd)

/-! ### operators -/
/-- what an operation on results does, by the rule on values -/
def OpS (K : PySem.W.Frag) (rl : R2) (o : R → R → M R) : Prop := ∀ (cl : String → Addr) (W : WX) (G : Hp) (s : DSt) (σ : L2.St) (H H0 : Hp) (v1 v2 : V) (r1 r2 : R) (Q : VK), SA K G s σ H → RRel K H0 G s σ H v1 r1 → RRel K H0 G s σ H v2 r2 →
  (Out K cl W G s σ H (o r1 r2 s) fun r G' s' H' => ∀ v, RRel K H G' s' σ H' v r → Q v H') → rl v1 v2 H Q
def fOp (o : R → R → M R) (f g : M R) : M R := bnd f fun x => bnd g fun y => o x y
theorem d_op2 {e : Expr} {a b : Expr} {f g : M R} {rl : R2} {o : R → R → M R} (h : ∀ {ta tb : TE}, PE X a ta → PE X b tb → PE X e (tOp rl ta tb)) (ho : OpS X.K rl o) (ha : DE X cl W a f) (hb : DE X cl W b g) : DE X cl W e (fOp o f g) := by
  refine pe_imp (h ha hb) fun σ H Q ⟨G, s, S, q⟩ => ?_
  refine ⟨G, s, S, out_mono (out_bind q) fun x G1 s1 H1 st1 S1 q1 v1 r1 => ⟨G1, s1, S1, ?_⟩⟩
  refine out_mono (out_bind q1) fun y G2 s2 H2 st2 S2 q2 v2 r2 => ?_
  refine ho cl W G2 s2 σ H2 H v1 v2 x y Q S2 (r1.mono st2) (r2.less st1.dom) (out_less (st1.trans st2).dom q2)
theorem OpR.or' {f : Value → Value → Sem Value} {r r' : R2} (h : OpR X f r) (h' : OpR X f r') : OpR X f (fun x y H Q => r x y H Q ∨ r' x y H Q) := by
  intro pins s σ H x y v u Q I rx ry q
  rcases q with q | q
  · exact h pins s σ H x y v u Q I rx ry q
  · exact h' pins s σ H x y v u Q I rx ry q
theorem SA.ownH {K : PySem.W.Frag} {G H : Hp} {s : DSt} {σ : L2.St} {a : Addr} (S : SA K G s σ H) (z : Own s σ a) : ∃ xs, H a = some (.lst xs) := by
  rcases z with ⟨i, ⟨es, e⟩, e2⟩ | z
  · obtain ⟨b, xs, e3, ha, _⟩ := S.slot i _ e
    rw [e2] at e3
    cases e3
    exact ⟨xs, ha⟩
  · have q := S.pw
    unfold POwn at z
    unfold PwOk at q
    split at z
    · exact z.elim
    · rename_i pa ca cells t e
      rw [e] at q
      dsimp only at q
      rcases z with rfl | rfl
      · exact ⟨_, q.2.1⟩
      · exact ⟨_, q.2.2.1⟩
/-- a new list -/
theorem new_list {K : PySem.W.Frag} {G H H0 : Hp} {s : DSt} {σ : L2.St} {p : Addr} {vs : List V} {ds : List PyData} (S : SA K G s σ H) (hp : H p = none) (hd : RpAll K G vs ds) (dm : ∀ a, H0 a ≠ none → H a ≠ none) :
    Stp G s σ H G s σ (upd H p (.lst vs)) ∧ SA K G s σ (upd H p (.lst vs)) ∧ RRel K H0 G s σ (upd H p (.lst vs)) (.ref p) (.new ds) := by
  have ne : ∀ a o, H a = some o → a ≠ p := fun a o h => ne_of_none h hp
  have up : ∀ a o, H a = some o → upd H p (.lst vs) a = some o := fun a o h => by rw [upd_ne (ne a o h)]; exact h
  have gp : G p = none := Evl.fresh_back S.gh hp
  refine ⟨⟨Ex.refl G, fun a o h _ => ⟨up a o h, rfl⟩, fun a z => .inl z, fun a h => ?_, fun _ h => h⟩, ⟨S.len, S.gh.trans fun a o h => up a o h, fun i sl h => ?_, S.inj, S.ownG, ?_, S.pne⟩, ⟨p, vs, rfl, upd_same, hd, gp, ?_, ?_⟩⟩
  · obtain ⟨o, e⟩ := Option.ne_none_iff_exists'.mp h
    rw [up a o e]; simp
  · have q := S.slot i sl h
    cases sl with
    | no => trivial
    | val d => exact q
    | raw v => exact q
    | ob o => exact q
    | own es => obtain ⟨a, xs, e, ha, hh⟩ := q; exact ⟨a, xs, e, up a _ ha, hh⟩
  · have q := S.pw
    unfold PwOk at q ⊢
    split
    · trivial
    · rename_i pa ca cells t e
      rw [e] at q
      exact ⟨q.1, up _ _ q.2.1, up _ _ q.2.2.1, q.2.2.2⟩
  · exact Classical.byContradiction fun q => dm p q hp
  · intro z
    obtain ⟨xs, e⟩ := S.ownH z
    rw [hp] at e; cases e
/-- a new object that is known from now on -/
theorem new_known {K : PySem.W.Frag} {G H : Hp} {s : DSt} {σ : L2.St} {p : Addr} (o : HO) (S : SA K G s σ H) (hp : H p = none) :
    Stp G s σ H (upd G p o) s σ (upd H p o) ∧ SA K (upd G p o) s σ (upd H p o) := by
  have up : ∀ a u, H a = some u → upd H p o a = some u := fun a u h => by rw [upd_ne (ne_of_none h hp)]; exact h
  have gp : G p = none := Evl.fresh_back S.gh hp
  have ug : Ex G (upd G p o) := Ex.new gp
  have nown : ∀ a, Own s σ a → a ≠ p := by
    rintro a z rfl
    obtain ⟨xs, e⟩ := S.ownH z
    rw [hp] at e; cases e
  refine ⟨⟨ug, fun a u h _ => ⟨up a u h, by rw [upd_ne (ne_of_none h hp)]⟩, fun a z => .inl z, fun a h => ?_, fun _ h => h⟩, ⟨S.len, fun a u h => ?_, fun i sl h => ?_, S.inj, fun i a z => ?_, ?_, S.pne⟩⟩
  · obtain ⟨u, e⟩ := Option.ne_none_iff_exists'.mp h
    rw [up a u e]; simp
  · by_cases e : a = p
    · subst e; rw [upd_same] at h ⊢; exact h
    · rw [upd_ne e] at h ⊢; exact S.gh a u h
  · have q := S.slot i sl h
    cases sl with
    | no => trivial
    | val d => obtain ⟨v, e, hd⟩ := q; exact ⟨v, e, dp_mono ug _ _ hd⟩
    | raw v => exact q
    | ob o => obtain ⟨v, e, hd⟩ := q; exact ⟨v, e, ob_mono ug hd⟩
    | own es => obtain ⟨a, xs, e, ha, hh⟩ := q; exact ⟨a, xs, e, up a _ ha, dps_mono ug _ _ hh⟩
  · rw [upd_ne (nown a (.inl ⟨i, z⟩))]; exact S.ownG i a z
  · have q := S.pw
    unfold PwOk at q ⊢
    split
    · trivial
    · rename_i pa ca cells t e
      rw [e] at q
      have n1 : pa ≠ p := nown pa (.inr (by rw [e]; exact .inl rfl))
      have n2 : ca ≠ p := nown ca (.inr (by rw [e]; exact .inr rfl))
      exact ⟨q.1, up _ _ q.2.1, up _ _ q.2.2.1, by rw [upd_ne n1]; exact q.2.2.2.1, by rw [upd_ne n2]; exact q.2.2.2.2⟩
end
end DL

/-! DL3: operators on data -/
noncomputable section
namespace DL
open PySem L2 PyProof.Rows
open Evl (Ex)

/-- content as looked at: a list may be one's own, what is in it is known -/
def Dq (K : PySem.W.Frag) (G H : Hp) (v : V) (d : PyData) : Prop := match d with
  | .list ds => ∃ a xs, v = .ref a ∧ H a = some (.lst xs) ∧ RpAll K G xs ds
  | d => Rp K G v d
theorem Dq.of {K : PySem.W.Frag} {G H : Hp} {v : V} : ∀ {d : PyData}, Ex G H → Rp K G v d → Dq K G H v d
  | .list ds, e, h => by cases h with | lst hs ha => exact ⟨_, _, rfl, e _ _ hs, ha⟩
  | .none, _, h | .bool _, _, h | .int _, _, h | .str _, _, h | .tuple _, _, h | .dict _, _, h => h
theorem Dq.rp {K : PySem.W.Frag} {G H : Hp} {v : V} : ∀ {d : PyData}, Ex G H → Dq K G H v d → Rp K H v d
  | .list ds, e, h => by obtain ⟨a, xs, rfl, ha, hd⟩ := h; exact .lst ha (dps_mono e _ _ hd)
  | .none, e, h | .bool _, e, h | .int _, e, h | .str _, e, h | .tuple _, e, h | .dict _, e, h => dp_mono e _ _ h
theorem look_q {K : PySem.W.Frag} {H0 G H : Hp} {s : DSt} {σ : L2.St} {v : V} {r : R} {d : PyData} (S : SA K G s σ H) (h : RRel K H0 G s σ H v r) (e : look r s = some d) : Dq K G H v d := by
  cases r with
  | val d' => cases e; exact .of S.gh h
  | raw u => cases e
  | ob o => cases e
  | new ds =>
    cases e
    obtain ⟨a, xs, rfl, ha, hd, _⟩ := h
    exact ⟨a, xs, rfl, ha, hd⟩
  | slot i =>
    simp only [look] at e
    have h' : σ[i]? = some (some v) := h
    split at e
    · rename_i ds q
      cases e
      obtain ⟨a, xs, e1, ha, hd⟩ := S.slot i _ q
      rw [h'] at e1
      cases e1
      exact ⟨a, xs, rfl, ha, hd⟩
    · rename_i d' q
      cases e
      obtain ⟨u, e1, hd⟩ := S.slot i _ q
      rw [h'] at e1
      cases e1
      exact .of S.gh hd
    · cases e
theorem dq_int {K : PySem.W.Frag} {G H : Hp} {v : V} {i : Int} (h : Dq K G H v (.int i)) : v = .int i := by cases (show Rp K G v (.int i) from h); rfl
theorem dq_bl {K : PySem.W.Frag} {G H : Hp} {v : V} {i : Bool} (h : Dq K G H v (.bool i)) : v = .bl i := by cases (show Rp K G v (.bool i) from h); rfl
theorem dq_str {K : PySem.W.Frag} {G H : Hp} {v : V} {i : Str} (h : Dq K G H v (.str i)) : v = .str i := by cases (show Rp K G v (.str i) from h); rfl
theorem dq_lst {K : PySem.W.Frag} {G H : Hp} {v : V} {ds : List PyData} (h : Dq K G H v (.list ds)) : ∃ a xs, v = .ref a ∧ H a = some (.lst xs) ∧ RpAll K G xs ds := h
theorem dq_tup {K : PySem.W.Frag} {G H : Hp} {v : V} {ds : List PyData} (x : Ex G H) (h : Dq K G H v (.tuple ds)) : ∃ a xs, v = .ref a ∧ SqT K H a xs ∧ RpAll K G xs ds ∧ Rp K G v (.tuple ds) := by
  have h' : Rp K G v (.tuple ds) := h
  cases id h' with
  | tup hs ha => exact ⟨_, _, rfl, Evl.ex_t x hs, ha, h'⟩
/-- what is to be shown of an answer -/
def Ans (K : PySem.W.Frag) (G H : Hp) (r : R) (Q : VK) : Prop := match r with
  | .val d => (∀ v, Rp K G v d → Q v H) ∧ ∀ ds p vs, d = .tuple ds → H p = none → RpAll K G vs ds → Q (.ref p) (upd H p (.tup vs))
  | .new ds => ∀ p vs, H p = none → RpAll K G vs ds → Q (.ref p) (upd H p (.lst vs))
  | .raw v => Q v H
  | .ob o => (∀ v, ObRel K G v o → Q v H) ∧ (∀ kvs p vs, o = .dict kvs → H p = none → KRp K G vs kvs → Q (.ref p) (upd H p (.dK vs))) ∧ ∀ S n p, o = .set S n → H p = none → Q (.ref p) (upd H p (.set S n))
  | .slot _ => False
theorem ans_of {K : PySem.W.Frag} {cl : String → Addr} {W : WX} {G H H0 : Hp} {s : DSt} {σ : L2.St} {r : R} {Q : VK} (S : SA K G s σ H) (dm : ∀ a, H0 a ≠ none → H a ≠ none) (hr : ∀ i, r ≠ .slot i)
    (h : Out K cl W G s σ H (.ok r s) fun r G' s' H' => ∀ v, RRel K H0 G' s' σ H' v r → Q v H') : Ans K G H r Q := by
  cases r with
  | val d =>
    refine ⟨fun v q => h G H Stp.refl S v q, fun ds p vs e hp hd => ?_⟩
    subst e
    obtain ⟨st, sa⟩ := new_known (.tup vs) S hp
    refine h _ _ st sa _ ?_
    exact .tup (.of upd_same) (dps_mono st.ex _ _ hd)
  | new ds =>
    intro p vs hp hd
    obtain ⟨st, sa, rr⟩ := new_list S hp hd dm
    exact h _ _ st sa _ rr
  | raw v => exact h G H Stp.refl S v rfl
  | ob o =>
    refine ⟨fun v q => h G H Stp.refl S v q, fun kvs p vs e hp hd => ?_, fun S' n p e hp => ?_⟩
    · subst e
      obtain ⟨st, sa⟩ := new_known (.dK vs) S hp
      exact h _ _ st sa _ ⟨p, vs, rfl, upd_same, krp_mono st.ex hd⟩
    · subst e
      obtain ⟨st, sa⟩ := new_known (.set S' n) S hp
      exact h _ _ st sa _ ⟨p, rfl, upd_same⟩
  | slot i => exact (hr i rfl).elim
def lift1 (o : PyData → Option R) : R → M R := fun x s => match look x s with
  | some d => match o d with
    | some (.slot _) => .stuck
    | some r => .ok r s
    | none => .stuck
  | none => .stuck
def lift2 (o : PyData → PyData → Option R) : R → R → M R := fun x y s => match look x s, look y s with
  | some d, some e => match o d e with
    | some (.slot _) => .stuck
    | some r => .ok r s
    | none => .stuck
  | _, _ => .stuck
def OpD (K : PySem.W.Frag) (rl : R2) (o : PyData → PyData → Option R) : Prop := ∀ (G H : Hp) (x y : V) (d e : PyData) (r : R) (Q : VK), Ex G H → Dq K G H x d → Dq K G H y e → o d e = some r → Ans K G H r Q → rl x y H Q
theorem ops_lift {K : PySem.W.Frag} {rl : R2} {o : PyData → PyData → Option R} (h : OpD K rl o) : OpS K rl (lift2 o) := by
  intro cl W G s σ H H0 v1 v2 r1 r2 Q S q1 q2 k
  unfold lift2 at k
  split at k
  · rename_i d e e1 e2
    split at k
    · exact k.elim
    · rename_i r ns ho
      exact h G H v1 v2 d e r Q S.gh (look_q S q1 e1) (look_q S q2 e2) ho (ans_of S (fun a z => z) (fun i z => ns i z) k)
    · exact k.elim
  · exact k.elim

/-! ### sums, products .. -/
def addO : PyData → PyData → Option R
  | .int i, .int j => some (.val (.int (i + j)))
  | .list a, .list b => if leS (a.length + b.length) then some (.new (a ++ b)) else none
  | .str a, .str b => if leS (a.length + b.length) then some (.val (.str (a ++ b))) else none
  | .tuple a, .tuple b => if leS (a.length + b.length) then some (.val (.tuple (a ++ b))) else none
  | _, _ => none
def rAddA (K : PySem.W.Frag) : R2 := fun x y H Q => rI0 (fun i j => .int (i + j)) x y H Q ∨ (rCat x y H Q ∨ ((∃ i j, x = .str i ∧ y = .str j ∧ i.length + j.length ≤ sizeLine ∧ Q (.str (i ++ j)) H) ∨ rCatA K x y H Q))
theorem opd_add {K : PySem.W.Frag} : OpD K (rAddA K) addO := by
  intro G H x y d e r Q ex hx hy ho k
  unfold addO at ho
  split at ho
  · cases ho
    obtain rfl := dq_int hx
    obtain rfl := dq_int hy
    exact .inl ⟨_, _, rfl, rfl, k.1 _ (.int _)⟩
  · split at ho
    · cases ho
      rename_i a b hl
      obtain ⟨p, xs, rfl, hp, hpx⟩ := dq_lst hx
      obtain ⟨q, ys, rfl, hq, hqx⟩ := dq_lst hy
      exact .inr (.inl ⟨p, q, xs, ys, rfl, rfl, hp, hq, by rw [dps_len hpx, dps_len hqx]; exact hl, fun l hl => k l _ hl (dps_app hpx hqx)⟩)
    · cases ho
  · split at ho
    · cases ho
      obtain rfl := dq_str hx
      obtain rfl := dq_str hy
      exact .inr (.inr (.inl ⟨_, _, rfl, rfl, by assumption, k.1 _ (.str _)⟩))
    · cases ho
  · split at ho
    · cases ho
      rename_i a b hl
      obtain ⟨p, xs, rfl, hp, hpx, h1⟩ := dq_tup ex hx
      obtain ⟨q, ys, rfl, hq, hqx, h2⟩ := dq_tup ex hy
      refine .inr (.inr (.inr ⟨p, q, xs, ys, rfl, rfl, hp, hq, by rw [dps_len hpx, dps_len hqx]; exact hl, fun z => ?_, fun _ z => ?_, fun _ _ l hl => k.2 _ l _ rfl hl (dps_app hpx hqx)⟩))
      · subst z
        cases hpx
        exact k.1 _ h2
      · subst z
        cases hqx
        simp only [List.append_nil] at k
        exact k.1 _ h1
    · cases ho
  · cases ho
def subO : PyData → PyData → Option R
  | .int i, .int j => some (.val (.int (i - j)))
  | _, _ => none
theorem opd_sub {K : PySem.W.Frag} : OpD K (rI0 fun i j => .int (i - j)) subO := by
  intro G H x y d e r Q ex hx hy ho k
  unfold subO at ho
  split at ho
  · cases ho
    obtain rfl := dq_int hx
    obtain rfl := dq_int hy
    exact ⟨_, _, rfl, rfl, k.1 _ (.int _)⟩
  · cases ho
def mulO : PyData → PyData → Option R
  | .int i, .int j => if lgM i j then some (.val (.int (i * j))) else none
  | .list a, .int k => if inW k ∧ leS (a.length * k.toNat) then some (.new (List.replicate k.toNat a).flatten) else none
  | _, _ => none
theorem dps_rep {K : PySem.W.Frag} {H : Hp} {ds : List PyData} {vs : List V} (h : RpAll K H vs ds) : ∀ n, RpAll K H (List.replicate n vs).flatten (List.replicate n ds).flatten
  | 0 => .nil
  | n + 1 => by
    rw [List.replicate_succ, List.replicate_succ, List.flatten_cons, List.flatten_cons]
    exact dps_app h (dps_rep h n)
def rMulA : R2 := fun x y H Q => rI CMulW (fun i j => .int (i * j)) x y H Q ∨ rRep x y H Q
theorem opd_mul {K : PySem.W.Frag} : OpD K rMulA mulO := by
  intro G H x y d e r Q ex hx hy ho k
  unfold mulO at ho
  split at ho
  · split at ho
    · cases ho
      obtain rfl := dq_int hx
      obtain rfl := dq_int hy
      exact .inl ⟨_, _, rfl, rfl, by assumption, k.1 _ (.int _)⟩
    · cases ho
  · split at ho
    · cases ho
      rename_i a n hl
      obtain ⟨p, xs, rfl, hp, hpx⟩ := dq_lst hx
      obtain rfl := dq_int hy
      exact .inr ⟨p, n, xs, rfl, rfl, hp, hl.1.1, hl.1.2, by rw [dps_len hpx]; exact hl.2, fun l hl => k l _ hl (dps_rep hpx _)⟩
    · cases ho
  · cases ho
def fdivO : PyData → PyData → Option R
  | .int i, .int j => if 0 < j ∧ lgD j then some (.val (.int (i / j))) else none
  | _, _ => none
theorem opd_fdiv {K : PySem.W.Frag} : OpD K (rI CDivW fun i j => .int (i / j)) fdivO := by
  intro G H x y d e r Q ex hx hy ho k
  unfold fdivO at ho
  split at ho
  · split at ho
    · cases ho
      obtain rfl := dq_int hx
      obtain rfl := dq_int hy
      exact ⟨_, _, rfl, rfl, by assumption, k.1 _ (.int _)⟩
    · cases ho
  · cases ho
def modO : PyData → PyData → Option R
  | .int i, .int j => if 0 < j then some (.val (.int (i % j))) else none
  | _, _ => none
theorem opd_mod {K : PySem.W.Frag} : OpD K (rI (fun _ j => 0 < j) fun i j => .int (i % j)) modO := by
  intro G H x y d e r Q ex hx hy ho k
  unfold modO at ho
  split at ho
  · split at ho
    · cases ho
      obtain rfl := dq_int hx
      obtain rfl := dq_int hy
      exact ⟨_, _, rfl, rfl, by assumption, k.1 _ (.int _)⟩
    · cases ho
  · cases ho
def powO : PyData → PyData → Option R
  | .int i, .int j => if 0 ≤ j ∧ leP j ∧ lgP i then some (.val (.int (i ^ j.toNat))) else none
  | _, _ => none
def CPowW (i j : Int) : Prop := 0 ≤ j ∧ j ≤ 30000 ∧ i.natAbs.log2 < 4000
theorem bits_log (i : Int) : Builtin.Int.intBits i ≤ i.natAbs.log2 + 1 := by
  unfold Builtin.Int.intBits
  split <;> omega
theorem op_powW {X : Cx} : OpR X (binaryOp .Pow) (rI CPowW fun i j => .int (i ^ j.toNat)) := by
  intro pins s σ H x y v u Q I r1 r2 h
  obtain ⟨i, j, rfl, rfl, hc, q⟩ := h
  obtain ⟨t, rfl⟩ := r1
  obtain ⟨t', rfl⟩ := r2
  refine pow_int hc.1 ?_ ⟨.int _, H, I.tok _, ⟨_, rfl⟩, q⟩
  have h1 := bits_log i
  have h2 : (Builtin.Int.intBits i : Int) ≤ 4000 := by have := hc.2.2; omega
  have h3 : (Builtin.Int.intBits i : Int) * j ≤ 4000 * 30000 := Int.mul_le_mul h2 hc.2.1 hc.1 (by decide)
  have : (4000 * 30000 : Int) ≤ 2 ^ 27 := by decide
  omega
theorem opd_pow {K : PySem.W.Frag} : OpD K (rI CPowW fun i j => .int (i ^ j.toNat)) powO := by
  intro G H x y d e r Q ex hx hy ho k
  unfold powO at ho
  split at ho
  · split at ho
    · cases ho
      obtain rfl := dq_int hx
      obtain rfl := dq_int hy
      exact ⟨_, _, rfl, rfl, by assumption, k.1 _ (.int _)⟩
    · cases ho
  · cases ho

/-! ### comparisons -/
def ltO : PyData → PyData → Option R
  | .int i, .int j => some (.val (.bool (decide (i < j))))
  | _, _ => none
def leO : PyData → PyData → Option R
  | .int i, .int j => some (.val (.bool (decide (i ≤ j))))
  | _, _ => none
def gtO : PyData → PyData → Option R
  | .int i, .int j => some (.val (.bool (decide (j < i))))
  | _, _ => none
def geO : PyData → PyData → Option R
  | .int i, .int j => some (.val (.bool (decide (j ≤ i))))
  | _, _ => none
theorem opd_cmpI {K : PySem.W.Frag} {p : Int → Int → Bool} {o : PyData → PyData → Option R} (h1 : ∀ i j, o (.int i) (.int j) = some (.val (.bool (p i j)))) (h2 : ∀ d e r, o d e = some r → ∃ i j, d = .int i ∧ e = .int j) :
    OpD K (rI0 fun i j => .bl (p i j)) o := by
  intro G H x y d e r Q ex hx hy ho k
  obtain ⟨i, j, rfl, rfl⟩ := h2 d e r ho
  rw [h1] at ho
  cases ho
  obtain rfl := dq_int hx
  obtain rfl := dq_int hy
  exact ⟨_, _, rfl, rfl, k.1 _ (.bl _)⟩
theorem opd_lt {K : PySem.W.Frag} : OpD K (rI0 fun i j => .bl (decide (i < j))) ltO := opd_cmpI (fun _ _ => rfl) fun d e r h => by unfold ltO at h; split at h <;> simp_all
theorem opd_le {K : PySem.W.Frag} : OpD K (rI0 fun i j => .bl (decide (i ≤ j))) leO := opd_cmpI (fun _ _ => rfl) fun d e r h => by unfold leO at h; split at h <;> simp_all
theorem opd_gt {K : PySem.W.Frag} : OpD K (rI0 fun i j => .bl (decide (j < i))) gtO := opd_cmpI (fun _ _ => rfl) fun d e r h => by unfold gtO at h; split at h <;> simp_all
theorem opd_ge {K : PySem.W.Frag} : OpD K (rI0 fun i j => .bl (decide (j ≤ i))) geO := opd_cmpI (fun _ _ => rfl) fun d e r h => by unfold geO at h; split at h <;> simp_all
def rEqP (K : PySem.W.Frag) (neg : Bool) : R2 := fun x y H Q => ∃ d e, Dp K H x d ∧ Dp K H y e ∧ d.plain = true ∧ e.plain = true ∧ min d.depth e.depth ≤ 60 ∧ Q (.bl (if neg then !PyData.eqv d e else PyData.eqv d e)) H
section
variable {X : Cx}
theorem op_eqP (hu : X.A.units + 64 < cLine) : OpR X (compareOp .Eq) (rEqP X.K false) := by
  intro pins s σ H x y v u Q I rx ry h
  obtain ⟨d, e, hd, he, sd, se, dm, q⟩ := h
  obtain ⟨as, r1⟩ := Dp.reads I d x v hd rx
  obtain ⟨bs, r2⟩ := Dp.reads I e y u he ry
  exact SeqAt.eq_plain r1 r2 sd se (by omega) ⟨.bl _, H, I, rfl, q⟩
theorem op_neP (hu : X.A.units + 64 < cLine) : OpR X (compareOp .NotEq) (rEqP X.K true) := by
  intro pins s σ H x y v u Q I rx ry h
  obtain ⟨d, e, hd, he, sd, se, dm, q⟩ := h
  obtain ⟨as, r1⟩ := Dp.reads I d x v hd rx
  obtain ⟨bs, r2⟩ := Dp.reads I e y u he ry
  exact SeqAt.ne_plain r1 r2 sd se (by omega) ⟨.bl _, H, I, rfl, q⟩
end
def eqO (d e : PyData) : Option R := if min d.depth e.depth ≤ 60 then some (.val (.bool (PyData.eqv d e))) else none
def neO (d e : PyData) : Option R := if min d.depth e.depth ≤ 60 then some (.val (.bool (!PyData.eqv d e))) else none
theorem opd_eq {K : PySem.W.Frag} : OpD K (rEqP K false) eqO := by
  intro G H x y d e r Q ex hx hy ho k
  unfold eqO at ho
  split at ho
  · cases ho
    have h1 := hx.rp ex
    have h2 := hy.rp ex
    exact ⟨d, e, rp_dp _ _ h1, rp_dp _ _ h2, rp_plain _ _ h1, rp_plain _ _ h2, by assumption, k.1 _ (.bl _)⟩
  · cases ho
theorem opd_ne {K : PySem.W.Frag} : OpD K (rEqP K true) neO := by
  intro G H x y d e r Q ex hx hy ho k
  unfold neO at ho
  split at ho
  · cases ho
    have h1 := hx.rp ex
    have h2 := hy.rp ex
    exact ⟨d, e, rp_dp _ _ h1, rp_dp _ _ h2, rp_plain _ _ h1, rp_plain _ _ h2, by assumption, k.1 _ (.bl _)⟩
  · cases ho
def rInP (K : PySem.W.Frag) (neg : Bool) : R2 := fun x y H Q => ∃ d ds, Dp K H x d ∧ (Dp K H y (.list ds) ∨ Dp K H y (.tuple ds)) ∧ d.plain = true ∧ PyData.plainAll ds = true ∧ min (PyData.depthAll ds) d.depth ≤ 60 ∧
  Q (.bl (if neg then !ds.any fun z => PyData.eqv z d else ds.any fun z => PyData.eqv z d)) H
section
variable {X : Cx}
theorem op_inP (hu : X.A.units + 64 < cLine) : OpR X (compareOp .In) (rInP X.K false) := by
  intro pins s σ H x y v u Q I rx ry h
  obtain ⟨d, ds, hd, he, sd, se, dm, q⟩ := h
  obtain ⟨as, r1⟩ := Dp.reads I d x v hd rx
  rcases he with he | he
  · obtain ⟨bs, r2⟩ := Dp.reads I _ y u he ry
    exact SeqAt.in_list_data r2 r1 se sd (by omega) ⟨.bl _, H, I, rfl, q⟩
  · obtain ⟨bs, r2⟩ := Dp.reads I _ y u he ry
    exact SeqAt.in_tuple_data r2 r1 se sd (by omega) ⟨.bl _, H, I, rfl, q⟩
theorem op_notInP (hu : X.A.units + 64 < cLine) : OpR X (compareOp .NotIn) (rInP X.K true) := by
  intro pins s σ H x y v u Q I rx ry h
  obtain ⟨d, ds, hd, he, sd, se, dm, q⟩ := h
  obtain ⟨as, r1⟩ := Dp.reads I d x v hd rx
  rcases he with he | he
  · obtain ⟨bs, r2⟩ := Dp.reads I _ y u he ry
    exact SeqAt.notIn_list_data r2 r1 se sd (by omega) ⟨.bl _, H, I, rfl, q⟩
  · obtain ⟨bs, r2⟩ := Dp.reads I _ y u he ry
    exact SeqAt.notIn_tuple_data r2 r1 se sd (by omega) ⟨.bl _, H, I, rfl, q⟩
end
def items : PyData → Option (List PyData)
  | .list ds => some ds
  | .tuple ds => some ds
  | _ => none
def inO (d e : PyData) : Option R := match items e with
  | some ds => if min (PyData.depthAll ds) d.depth ≤ 60 then some (.val (.bool (ds.any fun z => PyData.eqv z d))) else none
  | none => none
def notInO (d e : PyData) : Option R := match items e with
  | some ds => if min (PyData.depthAll ds) d.depth ≤ 60 then some (.val (.bool (!ds.any fun z => PyData.eqv z d))) else none
  | none => none
theorem items_dp {K : PySem.W.Frag} {H : Hp} {v : V} {e : PyData} {ds : List PyData} (h : Rp K H v e) (q : items e = some ds) : (Dp K H v (.list ds) ∨ Dp K H v (.tuple ds)) ∧ PyData.plainAll ds = true := by
  unfold items at q
  split at q
  · cases q
    refine ⟨.inl (rp_dp _ _ h), ?_⟩
    have := rp_plain _ _ h
    simpa [PyData.plain] using this
  · cases q
    refine ⟨.inr (rp_dp _ _ h), ?_⟩
    have := rp_plain _ _ h
    simpa [PyData.plain] using this
  · cases q
theorem opd_in {K : PySem.W.Frag} : OpD K (rInP K false) inO := by
  intro G H x y d e r Q ex hx hy ho k
  unfold inO at ho
  split at ho
  · rename_i ds hi
    split at ho
    · cases ho
      have h1 := hx.rp ex
      obtain ⟨h2, h3⟩ := items_dp (hy.rp ex) hi
      exact ⟨d, ds, rp_dp _ _ h1, h2, rp_plain _ _ h1, h3, by assumption, k.1 _ (.bl _)⟩
    · cases ho
  · cases ho
theorem opd_notIn {K : PySem.W.Frag} : OpD K (rInP K true) notInO := by
  intro G H x y d e r Q ex hx hy ho k
  unfold notInO at ho
  split at ho
  · rename_i ds hi
    split at ho
    · cases ho
      have h1 := hx.rp ex
      obtain ⟨h2, h3⟩ := items_dp (hy.rp ex) hi
      exact ⟨d, ds, rp_dp _ _ h1, h2, rp_plain _ _ h1, h3, by assumption, k.1 _ (.bl _)⟩
    · cases ho
  · cases ho
/-! ### places -/
def ixO : PyData → PyData → Option R
  | .list ds, .int i => (atI ds i).map .val
  | .tuple ds, .int i => (atI ds i).map .val
  | .str z, .int i => if leS (z.length) then (atI z.cps.toList i).map fun c => .val (.str ⟨#[c]⟩) else none
  | _, _ => none
theorem atI_rp {K : PySem.W.Frag} {G : Hp} {xs : List V} {ds : List PyData} {i : Int} {d : PyData} (h : RpAll K G xs ds) (e : atI ds i = some d) : ∃ v, atI xs i = some v ∧ Rp K G v d := by
  unfold atI at e ⊢
  rw [dps_len h]
  cases q : ixN ds.length i with
  | none => rw [q] at e; cases e
  | some j =>
    rw [q] at e
    have e : ds[j]? = some d := e
    have hj : j < xs.length := by rw [dps_len h]; exact (List.getElem?_eq_some_iff.mp e).1
    obtain ⟨d', e', r⟩ := dps_get h (List.getElem?_eq_getElem hj)
    rw [e] at e'
    cases e'
    exact ⟨xs[j], by simp [hj], r⟩
theorem opd_ix {K : PySem.W.Frag} : OpD K (rIx K) ixO := by
  intro G H x y d e r Q ex hx hy ho k
  unfold ixO at ho
  split at ho
  · rename_i ds i
    cases q : atI ds i with
    | none => rw [q] at ho; cases ho
    | some z =>
      rw [q] at ho
      cases ho
      obtain rfl := dq_int hy
      obtain ⟨p, xs, rfl, hp, hpx⟩ := dq_lst hx
      obtain ⟨v, e1, r1⟩ := atI_rp hpx q
      exact .inl ⟨p, xs, i, v, rfl, rfl, .of hp, e1, k.1 _ r1⟩
  · rename_i ds i
    cases q : atI ds i with
    | none => rw [q] at ho; cases ho
    | some z =>
      rw [q] at ho
      cases ho
      obtain rfl := dq_int hy
      obtain ⟨p, xs, rfl, hp, hpx, _⟩ := dq_tup ex hx
      obtain ⟨v, e1, r1⟩ := atI_rp hpx q
      exact .inr (.inl ⟨p, xs, i, v, rfl, rfl, hp, e1, k.1 _ r1⟩)
  · rename_i z i
    split at ho
    · cases q : atI z.cps.toList i with
      | none => rw [q] at ho; cases ho
      | some c =>
        rw [q] at ho
        cases ho
        obtain rfl := dq_int hy
        obtain rfl := dq_str hx
        exact .inr (.inr ⟨z, i, c, rfl, rfl, by assumption, q, k.1 _ (.str _)⟩)
    · cases ho
  · cases ho
section
variable {X : Cx} {cl : String → Addr} {W : WX} {a b : Expr} {f g : M R} {pos : Pos}
theorem d_add (ha : DE X cl W a f) (hb : DE X cl W b g) : DE X cl W (.BinOp a .Add b pos) (fOp (lift2 addO) f g) := d_op2 (pe_op (OpR.or' op_add (OpR.or' op_cat (OpR.or' op_add_str op_catA)))) (ops_lift opd_add) ha hb
theorem d_sub (ha : DE X cl W a f) (hb : DE X cl W b g) : DE X cl W (.BinOp a .Sub b pos) (fOp (lift2 subO) f g) := d_op2 (pe_op op_sub) (ops_lift opd_sub) ha hb
theorem d_mul (ha : DE X cl W a f) (hb : DE X cl W b g) : DE X cl W (.BinOp a .Mult b pos) (fOp (lift2 mulO) f g) := d_op2 (pe_op (OpR.or' op_mulW op_rep)) (ops_lift opd_mul) ha hb
theorem d_fdiv (ha : DE X cl W a f) (hb : DE X cl W b g) : DE X cl W (.BinOp a .FloorDiv b pos) (fOp (lift2 fdivO) f g) := d_op2 (pe_op op_fdivW) (ops_lift opd_fdiv) ha hb
theorem d_mod (ha : DE X cl W a f) (hb : DE X cl W b g) : DE X cl W (.BinOp a .Mod b pos) (fOp (lift2 modO) f g) := d_op2 (pe_op op_mod) (ops_lift opd_mod) ha hb
theorem d_pow (ha : DE X cl W a f) (hb : DE X cl W b g) : DE X cl W (.BinOp a .Pow b pos) (fOp (lift2 powO) f g) := d_op2 (pe_op op_powW) (ops_lift opd_pow) ha hb
theorem d_lt (ha : DE X cl W a f) (hb : DE X cl W b g) : DE X cl W (.Compare a [.Lt] [b] pos) (fOp (lift2 ltO) f g) := d_op2 (fun h1 h2 => pe_cmpR op_lt h1 h2 (nomark _)) (ops_lift opd_lt) ha hb
theorem d_le (ha : DE X cl W a f) (hb : DE X cl W b g) : DE X cl W (.Compare a [.LtE] [b] pos) (fOp (lift2 leO) f g) := d_op2 (fun h1 h2 => pe_cmpR op_le h1 h2 (nomark _)) (ops_lift opd_le) ha hb
theorem d_gt (ha : DE X cl W a f) (hb : DE X cl W b g) : DE X cl W (.Compare a [.Gt] [b] pos) (fOp (lift2 gtO) f g) := d_op2 (fun h1 h2 => pe_cmpR op_gt h1 h2 (nomark _)) (ops_lift opd_gt) ha hb
theorem d_ge (ha : DE X cl W a f) (hb : DE X cl W b g) : DE X cl W (.Compare a [.GtE] [b] pos) (fOp (lift2 geO) f g) := d_op2 (fun h1 h2 => pe_cmpR op_ge h1 h2 (nomark _)) (ops_lift opd_ge) ha hb
theorem d_eq (hu : X.A.units + 64 < cLine) (ha : DE X cl W a f) (hb : DE X cl W b g) : DE X cl W (.Compare a [.Eq] [b] pos) (fOp (lift2 eqO) f g) := d_op2 (fun h1 h2 => pe_cmpR (op_eqP hu) h1 h2 (nomark _)) (ops_lift opd_eq) ha hb
theorem d_ne (hu : X.A.units + 64 < cLine) (ha : DE X cl W a f) (hb : DE X cl W b g) : DE X cl W (.Compare a [.NotEq] [b] pos) (fOp (lift2 neO) f g) := d_op2 (fun h1 h2 => pe_cmpR (op_neP hu) h1 h2 (nomark _)) (ops_lift opd_ne) ha hb
theorem d_in (hu : X.A.units + 64 < cLine) (hm : behindInMarks .In b = false) (ha : DE X cl W a f) (hb : DE X cl W b g) : DE X cl W (.Compare a [.In] [b] pos) (fOp (lift2 inO) f g) := d_op2 (fun h1 h2 => pe_cmpR (op_inP hu) h1 h2 hm) (ops_lift opd_in) ha hb
theorem d_notIn (hu : X.A.units + 64 < cLine) (hm : behindInMarks .NotIn b = false) (ha : DE X cl W a f) (hb : DE X cl W b g) : DE X cl W (.Compare a [.NotIn] [b] pos) (fOp (lift2 notInO) f g) := d_op2 (fun h1 h2 => pe_cmpR (op_notInP hu) h1 h2 hm) (ops_lift opd_notIn) ha hb
theorem d_ix (ha : DE X cl W a f) (hb : DE X cl W b g) (hs : PlainIx b) : DE X cl W (.Subscript a b pos) (fOp (lift2 ixO) f g) := d_op2 (fun h1 h2 => pe_ix ix_seq h1 h2 hs) (ops_lift opd_ix) ha hb
end
end DL

/-! DL4: tests, argument lists, displays, statements -/
noncomputable section
namespace DL
open PySem L2 PyProof.Rows
open Evl (Ex)

/-! ### tests -/
def fB (f : M R) : M Bool := bnd f fun r s => match look r s with
  | some (.bool b) => .ok b s
  | _ => .stuck
section
variable {X : Cx} {cl : String → Addr} {W : WX}
theorem test_of {K : PySem.W.Frag} {f : M R} {σ : L2.St} {H : Hp} {Q : Bool → Hp → Prop} (h : tT K cl W (fB f) σ H Q) : tD K cl W f σ H fun x H1 => ∃ k, x = .bl k ∧ Q k H1 := by
  obtain ⟨G, s, S, q⟩ := h
  refine ⟨G, s, S, out_mono (out_bind q) fun r G1 s1 H1 st S1 q1 v rr => ?_⟩
  split at q1
  · rename_i b e
    obtain rfl := dq_bl (look_q S1 rr e)
    exact ⟨b, rfl, q1 G1 H1 Stp.refl S1⟩
  · exact q1.elim
theorem d_tval {e : Expr} {f : M R} (h : DE X cl W e f) (he : ∀ whole, isTrue e X.env whole = (do let v ← whole; standAt e.pos; holding [v] (truthy v)) := by intro _; rfl) : DT X cl W e (fB f) :=
  pt_imp (pt_val h he) fun σ H Q q => test_of q
/-- a comparison as a test -/
theorem d_opT {e a b : Expr} {f g : M R} {rl : R2} {o : R → R → M R} (h : ∀ {ta tb : TE}, PE X a ta → PE X b tb → PT X e (tTest (tOp rl ta tb))) (ho : OpS X.K rl o) (ha : DE X cl W a f) (hb : DE X cl W b g) : DT X cl W e (fB (fOp o f g)) := by
  refine pt_imp (h ha hb) fun σ H Q q => ?_
  obtain ⟨G, s, S, q⟩ := test_of q
  refine ⟨G, s, S, out_mono (out_bind q) fun x G1 s1 H1 st1 S1 q1 v1 r1 => ⟨G1, s1, S1, ?_⟩⟩
  refine out_mono (out_bind q1) fun y G2 s2 H2 st2 S2 q2 v2 r2 => ?_
  exact ho cl W G2 s2 σ H2 H v1 v2 x y _ S2 (r1.mono st2) (r2.less st1.dom) (out_less (st1.trans st2).dom q2)
def fAnd (f g : M Bool) : M Bool := bnd f fun b => if b then g else ret false
def fOr (f g : M Bool) : M Bool := bnd f fun b => if b then ret true else g
def fNot (f : M Bool) : M Bool := bnd f fun b => ret (!b)
theorem tand_of {K : PySem.W.Frag} {f g : M Bool} {σ : L2.St} {H : Hp} {Q : Bool → Hp → Prop} (h : tT K cl W (fAnd f g) σ H Q) : tAnd (tT K cl W f) (tT K cl W g) σ H Q := by
  obtain ⟨G, s, S, q⟩ := h
  refine ⟨G, s, S, out_mono (out_bind q) fun b G1 s1 H1 st S1 q1 => ?_⟩
  cases b with
  | true => exact ⟨G1, s1, S1, q1⟩
  | false => exact q1 G1 H1 Stp.refl S1
theorem tor_of {K : PySem.W.Frag} {f g : M Bool} {σ : L2.St} {H : Hp} {Q : Bool → Hp → Prop} (h : tT K cl W (fOr f g) σ H Q) : tOr (tT K cl W f) (tT K cl W g) σ H Q := by
  obtain ⟨G, s, S, q⟩ := h
  refine ⟨G, s, S, out_mono (out_bind q) fun b G1 s1 H1 st S1 q1 => ?_⟩
  cases b with
  | true => exact q1 G1 H1 Stp.refl S1
  | false => exact ⟨G1, s1, S1, q1⟩
theorem d_tnot {a : Expr} {f : M Bool} {pos : Pos} (ha : DT X cl W a f) : DT X cl W (.UnaryOp .Not a pos) (fNot f) := pt_imp (pt_not ha) fun σ H Q ⟨G, s, S, q⟩ =>
  ⟨G, s, S, out_mono (out_bind q) fun b G1 s1 H1 st S1 q1 => q1 G1 H1 Stp.refl S1⟩
theorem w_and1 {a : Expr} {f : M Bool} {pos : Pos} (ha : DT X cl W a f) : DW X cl W (.BoolOp .And [a] pos) f := pw_and1 ha
theorem w_or1 {a : Expr} {f : M Bool} {pos : Pos} (ha : DT X cl W a f) : DW X cl W (.BoolOp .Or [a] pos) f := pw_or1 ha
theorem w_and {a b : Expr} {rest : List Expr} {f g : M Bool} {pos : Pos} (ha : DT X cl W a f) (hb : DW X cl W (.BoolOp .And (b :: rest) pos) g) : DW X cl W (.BoolOp .And (a :: b :: rest) pos) (fAnd f g) := pw_imp (pw_and ha hb) fun σ H Q q => tand_of q
theorem w_or {a b : Expr} {rest : List Expr} {f g : M Bool} {pos : Pos} (ha : DT X cl W a f) (hb : DW X cl W (.BoolOp .Or (b :: rest) pos) g) : DW X cl W (.BoolOp .Or (a :: b :: rest) pos) (fOr f g) := pw_imp (pw_or ha hb) fun σ H Q q => tor_of q
theorem d_tw {e : Expr} {f : M Bool} (h : DW X cl W e f) : DT X cl W e f := PW.pt h
/-- and, or, not as values -/
def fV (f : M Bool) : M R := bnd f fun b => ret (.val (.bool b))
def fAndV (f g : M R) : M R := bnd (fB f) fun b => if b then g else ret (.val (.bool false))
def fOrV (f g : M R) : M R := bnd (fB f) fun b => if b then ret (.val (.bool true)) else g
theorem v_one {op} {a : Expr} {f : M R} {pos : Pos} (h : DE X cl W a f) : DE X cl W (.BoolOp op [a] pos) f := pe_one h
theorem v_and {a b : Expr} {rest : List Expr} {f g : M R} {pos : Pos} (ha : DE X cl W a f) (hb : DE X cl W (.BoolOp .And (b :: rest) pos) g) : DE X cl W (.BoolOp .And (a :: b :: rest) pos) (fAndV f g) := by
  refine pe_imp (pe_and ha hb) fun σ H Q q => ?_
  obtain ⟨G, s, S, q⟩ := q
  have q2 : tT X.K cl W (fB f) σ H fun b H1 => if b = true then tD X.K cl W g σ H1 Q else Q (.bl false) H1 := by
    refine ⟨G, s, S, out_mono (out_bind q) fun b G1 s1 H1 st S1 k => ?_⟩
    cases b with
    | true => exact ⟨G1, s1, S1, out_less st.dom k⟩
    | false => exact k G1 H1 Stp.refl S1 _ (.bl false)
  exact test_of q2
theorem v_or {a b : Expr} {rest : List Expr} {f g : M R} {pos : Pos} (ha : DE X cl W a f) (hb : DE X cl W (.BoolOp .Or (b :: rest) pos) g) : DE X cl W (.BoolOp .Or (a :: b :: rest) pos) (fOrV f g) := by
  refine pe_imp (pe_or ha hb) fun σ H Q q => ?_
  obtain ⟨G, s, S, q⟩ := q
  have q2 : tT X.K cl W (fB f) σ H fun b H1 => if b = true then Q (.bl true) H1 else tD X.K cl W g σ H1 Q := by
    refine ⟨G, s, S, out_mono (out_bind q) fun b G1 s1 H1 st S1 k => ?_⟩
    cases b with
    | true => exact k G1 H1 Stp.refl S1 _ (.bl true)
    | false => exact ⟨G1, s1, S1, out_less st.dom k⟩
  exact test_of q2
theorem v_not {a : Expr} {f : M R} {pos : Pos} (ha : DE X cl W a f) : DE X cl W (.UnaryOp .Not a pos) (fV (fNot (fB f))) := by
  refine pe_imp (pe_not ha) fun σ H Q q => ?_
  obtain ⟨G, s, S, q⟩ := q
  have q2 : tT X.K cl W (fB f) σ H fun b H1 => Q (.bl (!b)) H1 := by
    refine ⟨G, s, S, out_mono (out_bind (out_bind q)) fun b G1 s1 H1 st S1 k => ?_⟩
    exact k G1 H1 Stp.refl S1 G1 H1 Stp.refl S1 _ (.bl _)
  exact test_of q2
def fIf (c : M Bool) (f g : M R) : M R := bnd c fun b => if b then f else g
theorem d_ifExp {c a b : Expr} {h : M Bool} {f g : M R} {pos : Pos} (hc : DT X cl W c h) (ha : DE X cl W a f) (hb : DE X cl W b g) : DE X cl W (.IfExp c a b pos) (fIf h f g) := by
  refine pe_imp (pe_ifExp hc ha hb) fun σ H Q ⟨G, s, S, q⟩ => ?_
  refine ⟨G, s, S, out_mono (out_bind q) fun b G1 s1 H1 st S1 k => ?_⟩
  cases b with
  | true => exact ⟨G1, s1, S1, out_less st.dom k⟩
  | false => exact ⟨G1, s1, S1, out_less st.dom k⟩

/-! ### what is handed on: known from then on -/
def AR (K : PySem.W.Frag) (G : Hp) (v : V) : R → Prop
  | .val d => Rp K G v d
  | .raw u => v = u
  | .ob o => ObRel K G v o
  | _ => False
def esc (r : R) (s : DSt) : Option (R × DSt) := match r with
  | .val d => some (.val d, s)
  | .raw v => some (.raw v, s)
  | .ob o => some (.ob o, s)
  | .new ds => some (.val (.list ds), s)
  | .slot i => match s.d[i]? with
    | some (.own ds) => some (.val (.list ds), { s with d := s.d.set i (.val (.list ds)) })
    | some (.val d) => some (.val d, s)
    | _ => none
theorem know {K : PySem.W.Frag} {G H : Hp} {s : DSt} {σ : L2.St} {a : Addr} {xs : List V} {ds : List PyData} (S : SA K G s σ H) (ha : H a = some (.lst xs)) (hd : RpAll K G xs ds) (hg : G a = none) (hn : ¬ Own s σ a) :
    Ex G (upd G a (.lst xs)) ∧ SA K (upd G a (.lst xs)) s σ H ∧ Rp K (upd G a (.lst xs)) (.ref a) (.list ds) := by
  have ug : Ex G (upd G a (.lst xs)) := Ex.new hg
  refine ⟨ug, ⟨S.len, fun b u h => ?_, fun i sl h => ?_, S.inj, fun i b z => ?_, ?_, S.pne⟩, .lst upd_same (dps_mono ug _ _ hd)⟩
  · by_cases e : b = a
    · subst e; rw [upd_same] at h; rw [ha]; exact h
    · rw [upd_ne e] at h; exact S.gh b u h
  · have q := S.slot i sl h
    cases sl with
    | no => trivial
    | val d => obtain ⟨v, e, hd⟩ := q; exact ⟨v, e, dp_mono ug _ _ hd⟩
    | raw v => exact q
    | ob o => obtain ⟨v, e, hd⟩ := q; exact ⟨v, e, ob_mono ug hd⟩
    | own es => obtain ⟨b, ys, e, hb, hh⟩ := q; exact ⟨b, ys, e, hb, dps_mono ug _ _ hh⟩
  · rw [upd_ne fun e => hn (by subst e; exact .inl ⟨i, z⟩)]; exact S.ownG i b z
  · have q := S.pw
    unfold PwOk at q ⊢
    split
    · trivial
    · rename_i pa ca cells t e
      rw [e] at q
      refine ⟨q.1, q.2.1, q.2.2.1, ?_, ?_⟩
      · rw [upd_ne fun z => hn (by subst z; exact .inr (by rw [e]; exact .inl rfl))]; exact q.2.2.2.1
      · rw [upd_ne fun z => hn (by subst z; exact .inr (by rw [e]; exact .inr rfl))]; exact q.2.2.2.2
/-- a slot's list is known from now on -/
theorem own_set {s : DSt} {σ : L2.St} {i j : Nat} {d : PyData} {a : Addr} : OwnAt { s with d := s.d.set i (.val d) } σ j a ↔ j ≠ i ∧ OwnAt s σ j a := by
  constructor
  · rintro ⟨⟨ds, e⟩, h⟩
    by_cases q : j = i
    · subst q
      simp only [List.getElem?_set] at e
      split at e
      · split at e <;> cases e
      · rename_i z; simp at z
    · simp only [List.getElem?_set_ne (Ne.symm q)] at e
      exact ⟨q, ⟨ds, e⟩, h⟩
  · rintro ⟨q, ⟨ds, e⟩, h⟩
    refine ⟨⟨ds, ?_⟩, h⟩
    simp only [List.getElem?_set_ne (Ne.symm q)]
    exact e
theorem slot_known {K : PySem.W.Frag} {G H : Hp} {s : DSt} {σ : L2.St} {i : Nat} {ds : List PyData} (S : SA K G s σ H) (h : s.d[i]? = some (.own ds)) :
    ∃ a xs, σ[i]? = some (some (.ref a)) ∧ H a = some (.lst xs) ∧ Stp G s σ H (upd G a (.lst xs)) { s with d := s.d.set i (.val (.list ds)) } σ H ∧ SA K (upd G a (.lst xs)) { s with d := s.d.set i (.val (.list ds)) } σ H ∧ Rp K (upd G a (.lst xs)) (.ref a) (.list ds) := by
  obtain ⟨a, xs, e, ha, hd⟩ := S.slot i _ h
  have e' : σ[i]? = some (some (.ref a)) := by
    cases z : σ[i]? with
    | none => rw [z] at e; cases e
    | some o => rw [z] at e; simp at e; rw [e]
  have hown : OwnAt s σ i a := ⟨⟨ds, h⟩, e'⟩
  have hg := S.ownG i a hown
  have il : i < s.d.length := (List.getElem?_eq_some_iff.mp h).1
  have ug : Ex G (upd G a (.lst xs)) := Ex.new hg
  have rp : Rp K (upd G a (.lst xs)) (.ref a) (.list ds) := .lst upd_same (dps_mono ug _ _ hd)
  refine ⟨a, xs, e', ha, ⟨ug, fun b u hb nb => ⟨hb, upd_ne fun z => nb (by subst z; exact .inl ⟨i, hown⟩)⟩, fun b z => ?_, fun b z => z, fun b z => z⟩, ⟨by simp [S.len], fun b u hb => ?_, fun j sl hj => ?_, fun j k b h1 h2 => ?_, fun j b z => ?_, ?_, fun j b z => ?_⟩, rp⟩
  · refine .inl ?_
    rcases z with ⟨j, z⟩ | z
    · exact .inl ⟨j, (own_set.mp z).2⟩
    · exact .inr z
  · by_cases q : b = a
    · subst q; rw [upd_same] at hb; rw [ha]; exact hb
    · rw [upd_ne q] at hb; exact S.gh b u hb
  · by_cases q : j = i
    · subst q
      simp only [List.getElem?_set_self il] at hj
      cases hj
      exact ⟨.ref a, by rw [e'] <;> rfl, rp⟩
    · simp only [List.getElem?_set_ne (Ne.symm q)] at hj
      have z := S.slot j sl hj
      cases sl with
      | no => trivial
      | val d => obtain ⟨v, e, hd⟩ := z; exact ⟨v, e, dp_mono ug _ _ hd⟩
      | raw v => exact z
      | ob o => obtain ⟨v, e, hd⟩ := z; exact ⟨v, e, ob_mono ug hd⟩
      | own es => obtain ⟨b, ys, e, hb, hh⟩ := z; exact ⟨b, ys, e, hb, dps_mono ug _ _ hh⟩
  · exact S.inj j k b (own_set.mp h1).2 (own_set.mp h2).2
  · obtain ⟨q, z⟩ := own_set.mp z
    rw [upd_ne fun e => q (by subst e; exact S.inj j i b z hown)]
    exact S.ownG j b z
  · have q := S.pw
    have pn := S.pne i a hown
    unfold PwOk at q ⊢
    split
    · trivial
    · rename_i pa ca cells t e
      have e : s.w = some (pa, ca, cells, t) := e
      rw [e] at q pn
      refine ⟨q.1, q.2.1, q.2.2.1, ?_, ?_⟩
      · rw [upd_ne fun z => pn (.inl z.symm)]; exact q.2.2.2.1
      · rw [upd_ne fun z => pn (.inr z.symm)]; exact q.2.2.2.2
  · exact S.pne j b (own_set.mp z).2
/-- an adjusting step, from a start on -/
theorem esc_ok {K : PySem.W.Frag} {G0 H0 G H : Hp} {s0 s : DSt} {σ0 σ : L2.St} {v : V} {r r' : R} {s' : DSt} (S : SA K G s σ H) (st : Stp G0 s0 σ0 H0 G s σ H) (h : RRel K H0 G s σ H v r) (e : esc r s = some (r', s')) :
    ∃ G', Stp G0 s0 σ0 H0 G' s' σ H ∧ SA K G' s' σ H ∧ Ex G G' ∧ AR K G' v r' := by
  cases r with
  | val d => cases e; exact ⟨G, st, S, Ex.refl G, h⟩
  | raw u => cases e; exact ⟨G, st, S, Ex.refl G, h⟩
  | ob o => cases e; exact ⟨G, st, S, Ex.refl G, h⟩
  | new ds =>
    cases e
    obtain ⟨a, xs, rfl, ha, hd, hg, h0, hn⟩ := h
    obtain ⟨ug, S', rp⟩ := know S ha hd hg hn
    refine ⟨_, ⟨st.ex.trans ug, fun b u hb nb => ?_, st.own, st.dom, st.pw⟩, S', ug, rp⟩
    obtain ⟨h1, g1⟩ := st.keep b u hb nb
    exact ⟨h1, by rw [upd_ne fun z => by subst z; rw [h0] at hb; cases hb]; exact g1⟩
  | slot i =>
    simp only [esc] at e
    split at e
    · rename_i ds q
      cases e
      obtain ⟨a, xs, e1, ha, st', S', rp⟩ := slot_known S q
      have h' : σ[i]? = some (some v) := h
      rw [e1] at h'
      cases h'
      exact ⟨_, st.trans st', S', st'.ex, rp⟩
    · rename_i d q
      cases e
      have h' : σ[i]? = some (some v) := h
      obtain ⟨u, e1, hd⟩ := S.slot i _ q
      rw [h'] at e1
      cases e1
      exact ⟨G, st, S, Ex.refl G, hd⟩
    · cases e
def fEsc (r : R) : M R := fun s => match esc r s with
  | some (r', s') => .ok r' s'
  | none => .stuck
theorem ar_mono {K : PySem.W.Frag} {G G' : Hp} {v : V} {r : R} (e : Ex G G') (h : AR K G v r) : AR K G' v r := by
  cases r with
  | val d => exact dp_mono e _ _ h
  | raw u => exact h
  | ob o => exact ob_mono e h
  | new ds => exact h
  | slot i => exact h
end
end DL

/-! DL5: argument lists, displays, slices, statements -/
noncomputable section
namespace DL
open PySem L2 PyProof.Rows
open Evl (Ex)
section
variable {K : PySem.W.Frag} {cl : String → Addr} {W : WX} {G H : Hp} {s : DSt} {σ : L2.St}
/-- from a start on -/
def OutF {α : Type} (K : PySem.W.Frag) (cl : String → Addr) (W : WX) (G0 : Hp) (s0 : DSt) (σ0 : L2.St) (H0 : Hp) (σ : L2.St) (r : Res α) (k : α → Hp → DSt → Hp → Prop) : Prop := match r with
  | .ok a s' => ∀ G' H', Stp G0 s0 σ0 H0 G' s' σ H' → SA K G' s' σ H' → k a G' s' H'
  | .err x s' => ∀ cls d G' H', Stp G0 s0 σ0 H0 G' s' σ H' → SA K G' s' σ H' → XRel K cl x cls d H' → W cls d σ H'
  | .stuck => False
/-- an expression's value, then an adjustment -/
theorem out_esc {β : Type} {f : Res R} {g : R → M β} {k : β → Hp → DSt → Hp → Prop} (h : Out K cl W G s σ H (f.bind fun r => bnd (fEsc r) g) k) :
    Out K cl W G s σ H f fun r G1 s1 H1 => ∀ v, RRel K H G1 s1 σ H1 v r → ∃ G2 s2 r2, Stp G s σ H G2 s2 σ H1 ∧ SA K G2 s2 σ H1 ∧ AR K G2 v r2 ∧ Ex G1 G2 ∧
      Out K cl W G2 s2 σ H1 (g r2 s2) k := by
  cases f with
  | ok r s1 =>
    intro G1 H1 st S1 v rr
    have h : Out K cl W G s σ H ((fEsc r s1).bind g) k := h
    unfold fEsc at h
    cases e : esc r s1 with
    | none => rw [e] at h; exact h.elim
    | some p =>
      obtain ⟨r2, s2⟩ := p
      rw [e] at h
      obtain ⟨G2, st2, S2, ex, ar⟩ := esc_ok S1 st rr e
      refine ⟨G2, s2, r2, st2, S2, ar, ex, ?_⟩
      have h : Out K cl W G s σ H (g r2 s2) k := h
      cases q : g r2 s2 with
      | ok b s3 => rw [q] at h; exact fun G3 H3 st3 S3 => h G3 H3 (st2.trans st3) S3
      | err x s3 => rw [q] at h; exact fun c d G3 H3 st3 S3 xr => h c d G3 H3 (st2.trans st3) S3 xr
      | stuck => rw [q] at h; exact h
  | err x s1 => exact h
  | stuck => exact h
/-- escaped arguments -/
def tAe (K : PySem.W.Frag) (cl : String → Addr) (W : WX) (f : M (List R)) : TA := fun σ H Q => ∃ G s, SA K G s σ H ∧ Out K cl W G s σ H (f s) fun rs G' s' H' => ∀ vs, Paired (AR K G') vs rs → Q vs H'
end
section
variable {X : Cx} {cl : String → Addr} {W : WX} {e a b c : Expr} {es : List Expr} {f g : M R} {fs : M (List R)} {pos : Pos}
abbrev DAe (X : Cx) (cl : String → Addr) (W : WX) (es : List Expr) (f : M (List R)) : Prop := PA X es (tAe X.K cl W f)
def fNil : M (List R) := ret []
def fCons (f : M R) (fs : M (List R)) : M (List R) := bnd f fun r => bnd (fEsc r) fun r' => bnd fs fun rs => ret (r' :: rs)
def pCons (f : M R) (fs : M (List R)) : M (List R) := bnd f fun r => bnd fs fun rs => ret (r :: rs)
theorem ae_nil : DAe X cl W [] fNil := pa_imp pa_nil fun σ H Q ⟨G, s, S, q⟩ => q G H Stp.refl S [] .nil
theorem pair_ar {K : PySem.W.Frag} {G G' : Hp} (e : Ex G G') : ∀ {vs : List V} {rs : List R}, Paired (AR K G) vs rs → Paired (AR K G') vs rs
  | _, _, .nil => .nil
  | _, _, .cons h t => .cons (ar_mono e h) (pair_ar e t)
theorem ae_cons (ha : DE X cl W e f) (hr : DAe X cl W es fs) (hs : starEach (e :: es) X.env = (false, eval e X.env) :: starEach es X.env := by rfl) : DAe X cl W (e :: es) (fCons f fs) := by
  refine pa_imp (pa_cons ha hr hs) fun σ H Q ⟨G, s, S, q⟩ => ?_
  refine ⟨G, s, S, out_mono (out_esc q) fun r G1 s1 H1 st S1 k v rr => ?_⟩
  obtain ⟨G2, s2, r2, st2, S2, ar, ex, k2⟩ := k v rr
  refine ⟨G2, s2, S2, out_mono (out_bind k2) fun rs G3 s3 H3 st3 S3 k3 vs hv => ?_⟩
  exact k3 G3 H3 Stp.refl S3 (v :: vs) (.cons (ar_mono st3.ex ar) hv)
theorem ap_nil : DA X cl W [] fNil := pa_imp pa_nil fun σ H Q ⟨G, s, S, q⟩ => q G H Stp.refl S [] .nil
theorem pair_less {K : PySem.W.Frag} {H0 H1 G H : Hp} {s : DSt} {σ : L2.St} (d : ∀ a, H0 a ≠ none → H1 a ≠ none) : ∀ {vs : List V} {rs : List R}, RRels K H1 G s σ H vs rs → RRels K H0 G s σ H vs rs
  | _, _, .nil => .nil
  | _, _, .cons h t => .cons (h.less d) (pair_less d t)
theorem ap_cons (ha : DE X cl W e f) (hr : DA X cl W es fs) (hs : starEach (e :: es) X.env = (false, eval e X.env) :: starEach es X.env := by rfl) : DA X cl W (e :: es) (pCons f fs) := by
  refine pa_imp (pa_cons ha hr hs) fun σ H Q ⟨G, s, S, q⟩ => ?_
  refine ⟨G, s, S, out_mono (out_bind q) fun r G1 s1 H1 st S1 k v rr => ?_⟩
  refine ⟨G1, s1, S1, out_mono (out_bind k) fun rs G3 s3 H3 st3 S3 k3 vs hv => ?_⟩
  exact k3 G3 H3 Stp.refl S3 (v :: vs) (.cons (rr.mono st3) (pair_less st.dom hv))
/-- known data of results -/
def datas : List R → Option (List PyData)
  | [] => some []
  | .val d :: r => (datas r).map (d :: ·)
  | _ :: _ => none
theorem datas_rp {K : PySem.W.Frag} {G : Hp} : ∀ {rs : List R} {vs : List V} {ds : List PyData}, Paired (AR K G) vs rs → datas rs = some ds → RpAll K G vs ds
  | [], _, ds, .nil, e => by cases e; exact .nil
  | .val d :: r, _, ds, .cons h t, e => by
    simp only [datas] at e
    cases q : datas r with
    | none => rw [q] at e; cases e
    | some es => rw [q] at e; cases e; exact .cons h (datas_rp t q)
  | .raw _ :: _, _, _, _, e | .ob _ :: _, _, _, _, e | .new _ :: _, _, _, _, e | .slot _ :: _, _, _, _, e => by cases e
def fLst (fs : M (List R)) : M R := bnd fs fun rs s => match datas rs with
  | some ds => if leS (ds.length) then .ok (.new ds) s else .stuck
  | none => .stuck
def fTup (fs : M (List R)) : M R := bnd fs fun rs s => match datas rs with
  | some ds => if leS (ds.length) then .ok (.val (.tuple ds)) s else .stuck
  | none => .stuck
theorem d_lst (h : DAe X cl W es fs) : DE X cl W (.List es pos) (fLst fs) := by
  refine pe_imp (pe_lst h) fun σ H Q ⟨G, s, S, q⟩ => ?_
  refine ⟨G, s, S, out_mono (out_bind q) fun rs G1 s1 H1 st S1 k vs hv => ?_⟩
  split at k
  · rename_i ds e
    split at k
    · rename_i hl
      have hd := datas_rp hv e
      refine ⟨by rw [dps_len hd]; exact hl, fun p hp => ?_⟩
      obtain ⟨st2, S2, rr⟩ := new_list S1 hp hd st.dom
      exact k _ _ st2 S2 _ rr
    · exact k.elim
  · exact k.elim
theorem d_tup {x1} (h : DAe X cl W es fs) : DE X cl W (.Tuple es x1 pos) (fTup fs) := by
  refine pe_imp (pe_tup h) fun σ H Q ⟨G, s, S, q⟩ => ?_
  refine ⟨G, s, S, out_mono (out_bind q) fun rs G1 s1 H1 st S1 k vs hv => ?_⟩
  split at k
  · rename_i ds e
    split at k
    · rename_i hl
      have hd := datas_rp hv e
      refine ⟨by rw [dps_len hd]; exact hl, fun p hp => ?_⟩
      obtain ⟨st2, S2⟩ := new_known (.tup vs) S1 hp
      exact k _ _ st2 S2 _ (.tup (.of upd_same) (dps_mono st2.ex _ _ hd))
    · exact k.elim
  · exact k.elim

/-! ### slices -/
def fPart (f : M R) : M (Option Int) := bnd f fun r s => match look r s with
  | some (.int i) => .ok (some i) s
  | _ => .stuck
def fNoPart : M (Option Int) := ret none
def tP (K : PySem.W.Frag) (cl : String → Addr) (W : WX) (f : M (Option Int)) : TO := fun σ H Q => ∃ G s, SA K G s σ H ∧ Out K cl W G s σ H (f s) fun o _ _ H' => Q o H'
theorem po_imp {o : Option Expr} {t t' : TO} (h : PO X o t) (i : ∀ σ H Q, t' σ H Q → t σ H Q) : PO X o t' := ⟨fun pins s σ H Q I q => h.run pins s σ H Q I (i σ H Q q)⟩
abbrev DP (X : Cx) (cl : String → Addr) (W : WX) (o : Option Expr) (f : M (Option Int)) : Prop := PO X o (tP X.K cl W f)
theorem dp_none : DP X cl W none fNoPart := po_imp po_none fun σ H Q ⟨G, s, S, q⟩ => q G H Stp.refl S
theorem dp_some (h : DE X cl W e f) : DP X cl W (some e) (fPart f) := po_imp (po_some h) fun σ H Q ⟨G, s, S, q⟩ => by
  refine ⟨G, s, S, out_mono (out_bind q) fun r G1 s1 H1 st S1 k v rr => ?_⟩
  split at k
  · rename_i i e
    obtain rfl := dq_int (look_q S1 rr e)
    exact ⟨i, rfl, k G1 H1 Stp.refl S1⟩
  · exact k.elim
def cutD (xs : List PyData) (lo hi : Option Int) : List PyData := (xs.drop (HT.sIx xs.length 0 lo)).take (HT.sIx xs.length xs.length hi - HT.sIx xs.length 0 lo)
def sliceO (d : PyData) (lo hi : Option Int) : Option R := match d with
  | .list xs => some (.new (cutD xs lo hi))
  | .tuple xs => some (.val (.tuple (cutD xs lo hi)))
  | _ => none
def fSlice (f : M R) (l h : M (Option Int)) : M R := bnd f fun x => bnd l fun lo => bnd h fun hi s => match look x s with
  | some d => match sliceO d lo hi with
    | some (.slot _) => .stuck
    | some r => .ok r s
    | none => .stuck
  | none => .stuck
theorem cut_rp {K : PySem.W.Frag} {G : Hp} {xs : List V} {ds : List PyData} {lo hi : Option Int} (h : RpAll K G xs ds) : RpAll K G (cutV xs lo hi) (cutD ds lo hi) := by
  unfold cutV cutD
  rw [dps_len h]
  exact dps_take _ (dps_drop _ h)
theorem d_slice {lo hi : Option Expr} {l h : M (Option Int)} {p2 : Pos} (ha : DE X cl W e f) (hl : DP X cl W lo l) (hh : DP X cl W hi h) : DE X cl W (.Subscript e (.Slice lo hi none p2) pos) (fSlice f l h) := by
  refine pe_imp (pe_slice (sl_list.or sl_tupA) ha hl hh) fun σ H Q ⟨G, s, S, q⟩ => ?_
  refine ⟨G, s, S, out_mono (out_bind q) fun x G1 s1 H1 st1 S1 q1 v1 r1 => ⟨G1, s1, S1, ?_⟩⟩
  refine out_mono (out_bind q1) fun lo G2 s2 H2 st2 S2 q2 => ⟨G2, s2, S2, ?_⟩
  refine out_mono (out_bind q2) fun hi G3 s3 H3 st3 S3 q3 => ?_
  have r3 := (r1.mono st2).mono st3
  split at q3
  · rename_i d e
    have hd := look_q S3 r3 e
    split at q3
    · exact q3.elim
    · rename_i r ns ho
      have an := ans_of S3 ((st1.trans st2).trans st3).dom (fun i z => ns i z) q3
      unfold sliceO at ho
      split at ho
      · cases ho
        obtain ⟨p, xs, rfl, hp, hpx⟩ := dq_lst hd
        exact .inl ⟨p, xs, rfl, .of hp, fun l hl => an l _ hl (cut_rp hpx)⟩
      · rename_i ds
        cases ho
        obtain ⟨p, xs, rfl, hp, hpx, h1⟩ := dq_tup S3.gh hd
        refine .inr ⟨p, xs, rfl, hp, fun ⟨z1, z2⟩ => ?_, fun _ l hl => an.2 _ l _ rfl hl (cut_rp hpx)⟩
        refine an.1 _ ?_
        have e1 : cutD ds lo hi = ds := by
          unfold cutD
          rw [← dps_len hpx, z1, z2, dps_len hpx]
          simp
        rw [e1]
        exact h1
      · cases ho
    · exact q3.elim
  · exact q3.elim
def revO : PyData → Option R
  | .list xs => some (.new xs.reverse)
  | _ => none
def fUn (o : R → M R) (f : M R) : M R := bnd f o
theorem d_rev {k : Nat} {p1 p2 p3 : Pos} (ha : DE X cl W e f) : DE X cl W (.Subscript e (.Slice none none (some (.UnaryOp .USub (.Constant (.int 1) k p1) p2)) p3) pos) (fUn (lift1 revO) f) := by
  refine pe_imp (pe_revL ha) fun σ H Q ⟨G, s, S, q⟩ => ?_
  refine ⟨G, s, S, out_mono (out_bind q) fun x G1 s1 H1 st1 S1 q1 v1 r1 => ?_⟩
  unfold lift1 at q1
  split at q1
  · rename_i d e
    have hd := look_q S1 r1 e
    split at q1
    · exact q1.elim
    · rename_i r ns ho
      have an := ans_of S1 st1.dom (fun i z => ns i z) q1
      unfold revO at ho
      split at ho
      · cases ho
        obtain ⟨p, xs, rfl, hp, hpx⟩ := dq_lst hd
        exact ⟨p, xs, rfl, .of hp, fun l hl => an l _ hl (dps_rev hpx)⟩
      · cases ho
    · exact q1.elim
  · exact q1.elim
def negO : PyData → Option R
  | .int i => some (.val (.int (-i)))
  | _ => none
theorem d_neg (ha : DE X cl W e f) : DE X cl W (.UnaryOp .USub e pos) (fUn (lift1 negO) f) := by
  refine pe_imp (pe_un un_neg ha) fun σ H Q ⟨G, s, S, q⟩ => ?_
  refine ⟨G, s, S, out_mono (out_bind q) fun x G1 s1 H1 st1 S1 q1 v1 r1 => ?_⟩
  unfold lift1 at q1
  split at q1
  · rename_i d e
    have hd := look_q S1 r1 e
    split at q1
    · exact q1.elim
    · rename_i r ns ho
      have an := ans_of S1 st1.dom (fun i z => ns i z) q1
      unfold negO at ho
      split at ho
      · cases ho
        obtain rfl := dq_int hd
        exact ⟨_, rfl, an.1 _ (.int _)⟩
      · cases ho
    · exact q1.elim
  · exact q1.elim
/-- x is None, x is not None -/
def isNR (r : R) (s : DSt) : Option Bool := match r with
  | .raw v => some (decide (v = .non))
  | .ob _ => some false
  | r => match look r s with
    | some .none => some true
    | some _ => some false
    | none => none
def fIsN (neg : Bool) (f : M R) : M R := bnd f fun r s => match isNR r s with
  | some b => .ok (.val (.bool (if neg then !b else b))) s
  | none => .stuck
theorem isNR_ok {K : PySem.W.Frag} {H0 G H : Hp} {s : DSt} {σ : L2.St} {v : V} {r : R} {b : Bool} (S : SA K G s σ H) (h : RRel K H0 G s σ H v r) (e : isNR r s = some b) : decide (v = .non) = b := by
  have go : ∀ d, Dq K G H v d → (match some d with | some PyData.none => some true | some _ => some false | none => none) = some b → decide (v = .non) = b := by
    intro d hd e
    cases d with
    | none => cases e; cases (show Rp K G v .none from hd); rfl
    | bool x => cases e; cases (show Rp K G v (.bool x) from hd); rfl
    | int x => cases e; cases (show Rp K G v (.int x) from hd); rfl
    | str x => cases e; cases (show Rp K G v (.str x) from hd); rfl
    | list x => cases e; obtain ⟨a, xs, rfl, _⟩ := dq_lst hd; rfl
    | tuple x => cases e; cases (show Rp K G v (.tuple x) from hd); rfl
    | dict x => cases (show Rp K G v (.dict x) from hd)
  unfold isNR at e
  split at e
  · cases e
    have h : v = _ := h
    rw [h]
  · cases e
    rename_i o
    cases o with
    | dict kvs => obtain ⟨a, vs, rfl, _⟩ := h; rfl
    | exc x => obtain ⟨a, d, rfl, _⟩ := h; rfl
    | set S n => obtain ⟨a, rfl, _⟩ := h; rfl
    | scr ns => obtain ⟨a, rfl, _⟩ := h; rfl
  · split at e
    · rename_i q; exact go _ (look_q S h q) e
    · rename_i d _ q
      refine go d (look_q S h q) ?_
      rw [← e]
      split
      · rename_i z _ w; exact absurd (Option.some.inj w) (by assumption)
      · rfl
      · rename_i w; cases w
    · cases e
theorem is_reads {rl : TE → TE} (neg : Bool) (hf : ∀ te σ H Q, te σ H (fun x H1 => Q (.bl (if neg then !decide (x = V.non) else decide (x = V.non))) H1) → rl te σ H Q) {K : PySem.W.Frag} {σ : L2.St} {H : Hp} {Q : VK} (q : tD K cl W (fIsN neg f) σ H Q) : rl (tD K cl W f) σ H Q := by
  obtain ⟨G, s, S, q⟩ := q
  refine hf _ _ _ _ ⟨G, s, S, out_mono (out_bind q) fun x G1 s1 H1 st1 S1 q1 v1 r1 => ?_⟩
  split at q1
  · rename_i b e
    have z := isNR_ok S1 r1 e
    have an := q1 G1 H1 Stp.refl S1 (.bl (if neg then !b else b)) (.bl _)
    rw [← z] at an
    exact an
  · exact q1.elim
theorem d_isN {j pos'} (ha : DE X cl W a f) : DE X cl W (.Compare a [.Is] [.Constant .none j pos'] pos) (fIsN false f) := pe_imp (pe_cmp (pc_isN ha) rfl) fun σ H Q q => is_reads (rl := tIsN) false (fun _ _ _ _ h => h) q
theorem d_notN {j pos'} (ha : DE X cl W a f) : DE X cl W (.Compare a [.IsNot] [.Constant .none j pos'] pos) (fIsN true f) := pe_imp (pe_cmp (pc_notN ha) rfl) fun σ H Q q => is_reads (rl := tNotN) true (fun _ _ _ _ h => h) q
theorem t_isN {j pos'} (ha : DE X cl W a f) : DT X cl W (.Compare a [.Is] [.Constant .none j pos'] pos) (fB (fIsN false f)) := pt_imp (pt_cmp (pc_isN ha) rfl) fun σ H Q q => is_reads (rl := tIsN) false (fun _ _ _ _ h => h) (test_of q)
theorem t_notN {j pos'} (ha : DE X cl W a f) : DT X cl W (.Compare a [.IsNot] [.Constant .none j pos'] pos) (fB (fIsN true f)) := pt_imp (pt_cmp (pc_notN ha) rfl) fun σ H Q q => is_reads (rl := tNotN) true (fun _ _ _ _ h => h) (test_of q)
/-- comparisons as tests -/
theorem t_lt (ha : DE X cl W a f) (hb : DE X cl W b g) : DT X cl W (.Compare a [.Lt] [b] pos) (fB (fOp (lift2 ltO) f g)) := d_opT (fun h1 h2 => pt_cmpR op_lt h1 h2 (nomark _)) (ops_lift opd_lt) ha hb
theorem t_le (ha : DE X cl W a f) (hb : DE X cl W b g) : DT X cl W (.Compare a [.LtE] [b] pos) (fB (fOp (lift2 leO) f g)) := d_opT (fun h1 h2 => pt_cmpR op_le h1 h2 (nomark _)) (ops_lift opd_le) ha hb
theorem t_gt (ha : DE X cl W a f) (hb : DE X cl W b g) : DT X cl W (.Compare a [.Gt] [b] pos) (fB (fOp (lift2 gtO) f g)) := d_opT (fun h1 h2 => pt_cmpR op_gt h1 h2 (nomark _)) (ops_lift opd_gt) ha hb
theorem t_ge (ha : DE X cl W a f) (hb : DE X cl W b g) : DT X cl W (.Compare a [.GtE] [b] pos) (fB (fOp (lift2 geO) f g)) := d_opT (fun h1 h2 => pt_cmpR op_ge h1 h2 (nomark _)) (ops_lift opd_ge) ha hb
theorem t_eq (hu : X.A.units + 64 < cLine) (ha : DE X cl W a f) (hb : DE X cl W b g) : DT X cl W (.Compare a [.Eq] [b] pos) (fB (fOp (lift2 eqO) f g)) := d_opT (fun h1 h2 => pt_cmpR (op_eqP hu) h1 h2 (nomark _)) (ops_lift opd_eq) ha hb
theorem t_ne (hu : X.A.units + 64 < cLine) (ha : DE X cl W a f) (hb : DE X cl W b g) : DT X cl W (.Compare a [.NotEq] [b] pos) (fB (fOp (lift2 neO) f g)) := d_opT (fun h1 h2 => pt_cmpR (op_neP hu) h1 h2 (nomark _)) (ops_lift opd_ne) ha hb
theorem t_in (hu : X.A.units + 64 < cLine) (hm : behindInMarks .In b = false) (ha : DE X cl W a f) (hb : DE X cl W b g) : DT X cl W (.Compare a [.In] [b] pos) (fB (fOp (lift2 inO) f g)) := d_opT (fun h1 h2 => pt_cmpR (op_inP hu) h1 h2 hm) (ops_lift opd_in) ha hb
theorem t_notIn (hu : X.A.units + 64 < cLine) (hm : behindInMarks .NotIn b = false) (ha : DE X cl W a f) (hb : DE X cl W b g) : DT X cl W (.Compare a [.NotIn] [b] pos) (fB (fOp (lift2 notInO) f g)) := d_opT (fun h1 h2 => pt_cmpR (op_notInP hu) h1 h2 hm) (ops_lift opd_notIn) ha hb
end
end DL

/-! DL6: statements, loops -/
noncomputable section
namespace DL
open PySem L2 PyProof.Rows
open Evl (Ex)
/-! ### a slot is set -/
def putS (i : Nat) (x : Sl) (s : DSt) : DSt := { s with d := s.d.set i x }
/-- what a name holds behind x = e -/
def store (i : Nat) (r : R) (s : DSt) : Option DSt := match r with
  | .val d => some (putS i (.val d) s)
  | .raw v => some (putS i (.raw v) s)
  | .ob o => some (putS i (.ob o) s)
  | .new ds => some (putS i (.own ds) s)
  | .slot j => match s.d[j]? with
    | some (.own ds) => some (putS i (.val (.list ds)) (putS j (.val (.list ds)) s))
    | some (.val d) => some (putS i (.val d) s)
    | _ => none
section
variable {K : PySem.W.Frag} {G H G0 H0 : Hp} {s s0 : DSt} {σ σ0 : L2.St}
theorem own_put {i j : Nat} {x : Sl} {v : V} {a : Addr} (hi : i < s.d.length) (hl : s.d.length = σ.length) : OwnAt (putS i x s) (σ.set i (some v)) j a → (j = i ∧ (∃ ds, x = .own ds) ∧ v = .ref a) ∨ (j ≠ i ∧ OwnAt s σ j a) := by
  rintro ⟨⟨ds, e⟩, h⟩
  by_cases q : j = i
  · subst q
    unfold putS at e
    simp only [List.getElem?_set_self hi] at e
    rw [List.getElem?_set_self (by omega)] at h
    cases e
    cases h
    exact .inl ⟨rfl, ⟨ds, rfl⟩, rfl⟩
  · unfold putS at e
    simp only [List.getElem?_set_ne (Ne.symm q)] at e
    rw [List.getElem?_set_ne (Ne.symm q)] at h
    exact .inr ⟨q, ⟨ds, e⟩, h⟩
/-- a slot takes what is known, or an own list -/
theorem put_ok {i : Nat} {x : Sl} {v : V} (S : SA K G s σ H) (hi : i < s.d.length) (hx : SlOk K G H (some v) x) (ho : ∀ ds a, x = .own ds → v = .ref a → G a = none ∧ ¬ POwn s.w a ∧ ∀ j, j ≠ i → ¬ OwnAt s σ j a) : SA K G (putS i x s) (σ.set i (some v)) H := by
  refine ⟨by simp [putS, S.len], S.gh, fun j sl h => ?_, fun j k a h1 h2 => ?_, fun j a h => ?_, S.pw, fun j a h => ?_⟩
  · by_cases q : j = i
    · subst q
      simp only [putS, List.getElem?_set_self hi] at h
      cases h
      rw [List.getElem?_set_self (by rw [← S.len]; exact hi)]
      exact hx
    · simp only [putS, List.getElem?_set_ne (Ne.symm q)] at h
      rw [List.getElem?_set_ne (Ne.symm q)]
      exact S.slot j sl h
  · rcases own_put hi S.len h1 with ⟨e1, ⟨ds, e2⟩, e3⟩ | ⟨e1, h1⟩ <;> rcases own_put hi S.len h2 with ⟨f1, ⟨es, f2⟩, f3⟩ | ⟨f1, h2⟩
    · rw [e1, f1]
    · exact absurd h2 ((ho ds a e2 e3).2.2 k f1)
    · exact absurd h1 ((ho es a f2 f3).2.2 j e1)
    · exact S.inj j k a h1 h2
  · rcases own_put hi S.len h with ⟨e1, ⟨ds, e2⟩, e3⟩ | ⟨e1, h1⟩
    · exact (ho ds a e2 e3).1
    · exact S.ownG j a h1
  · rcases own_put hi S.len h with ⟨e1, ⟨ds, e2⟩, e3⟩ | ⟨e1, h1⟩
    · exact (ho ds a e2 e3).2.1
    · exact S.pne j a h1
theorem put_stp {i : Nat} {x : Sl} {v : V} (S : SA K G s σ H) (st : Stp G0 s0 σ0 H0 G s σ H) (hi : i < s.d.length) (ho : ∀ ds a, x = .own ds → v = .ref a → H0 a = none ∨ Own s σ a) : Stp G0 s0 σ0 H0 G (putS i x s) (σ.set i (some v)) H := by
  refine ⟨st.ex, st.keep, fun a z => ?_, st.dom, st.pw⟩
  rcases z with ⟨j, z⟩ | z
  · rcases own_put hi S.len z with ⟨e1, ⟨ds, e2⟩, e3⟩ | ⟨e1, h1⟩
    · rcases ho ds a e2 e3 with q | q
      · exact .inr q
      · exact st.own a q
    · exact st.own a (.inl ⟨j, h1⟩)
  · exact st.own a (.inr z)
theorem set_len {s s' : DSt} {i : Nat} {r : R} (h : store i r s = some s') : s'.d.length = s.d.length := by
  unfold store at h
  split at h
  · cases h; simp [putS]
  · cases h; simp [putS]
  · cases h; simp [putS]
  · cases h; simp [putS]
  · split at h
    · cases h; simp [putS]
    · cases h; simp [putS]
    · cases h
theorem store_good {i : Nat} {r : R} {v : V} {s' : DSt} (S : SA K G s σ H) (st : Stp G0 s0 σ0 H0 G s σ H) (h : RRel K H0 G s σ H v r) (hi : i < s.d.length) (e : store i r s = some s') :
    ∃ G', Stp G0 s0 σ0 H0 G' s' (σ.set i (some v)) H ∧ SA K G' s' (σ.set i (some v)) H ∧ Ex G G' := by
  cases r with
  | val d => cases e; exact ⟨G, put_stp S st hi (by intro _ _ z; cases z), put_ok S hi ⟨v, rfl, h⟩ (by intro _ _ z; cases z), Ex.refl G⟩
  | ob o => cases e; exact ⟨G, put_stp S st hi (by intro _ _ z; cases z), put_ok S hi ⟨v, rfl, h⟩ (by intro _ _ z; cases z), Ex.refl G⟩
  | raw u =>
    cases e
    have h : v = u := h
    subst h
    exact ⟨G, put_stp S st hi (by intro _ _ z; cases z), put_ok S hi rfl (by intro _ _ z; cases z), Ex.refl G⟩
  | new ds =>
    cases e
    obtain ⟨a, xs, rfl, ha, hd, hg, h0, hn⟩ := h
    refine ⟨G, put_stp S st hi (fun es b z1 z2 => ?_), put_ok S hi ⟨a, xs, rfl, ha, hd⟩ (fun es b z1 z2 => ?_), Ex.refl G⟩
    · cases z2; exact .inl h0
    · cases z2; exact ⟨hg, fun z => hn (.inr z), fun j _ z => hn (.inl ⟨j, z⟩)⟩
  | slot j =>
    simp only [store] at e
    split at e
    · rename_i ds q
      cases e
      obtain ⟨a, xs, e1, ha, st', S', rp⟩ := slot_known S q
      have h' : σ[j]? = some (some v) := h
      rw [e1] at h'
      cases h'
      have hi' : i < ({ s with d := s.d.set j (.val (.list ds)) } : DSt).d.length := by simpa using hi
      exact ⟨_, put_stp S' (st.trans st') hi' (by intro _ _ z; cases z), put_ok S' hi' ⟨_, rfl, rp⟩ (by intro _ _ z; cases z), st'.ex⟩
    · rename_i d q
      cases e
      have h' : σ[j]? = some (some v) := h
      obtain ⟨u, e1, hd⟩ := S.slot j _ q
      rw [h'] at e1
      cases e1
      exact ⟨G, put_stp S st hi (by intro _ _ z; cases z), put_ok S hi ⟨v, rfl, hd⟩ (by intro _ _ z; cases z), Ex.refl G⟩
    · cases e
end
/-! ### flows -/
def fseq (f g : DSt → Flow) : DSt → Flow := fun s => match f s with
  | .next s' => g s'
  | x => x
def fnext : DSt → Flow := fun s => .next s
section
variable {K : PySem.W.Frag} {cl : String → Addr} {W : WX} {G H G' H' : Hp} {s s' : DSt} {σ σ' : L2.St}
theorem fout_shift {fl : Flow} {D : Ends} (st : Stp G s σ H G' s' σ' H') (h : FOut K cl W G s σ H fl D) : FOut K cl W G' s' σ' H' fl D := by
  cases fl with
  | next s2 => exact fun G2 σ2 H2 st2 S2 => h G2 σ2 H2 (st.trans st2) S2
  | brk s2 => exact fun G2 σ2 H2 st2 S2 => h G2 σ2 H2 (st.trans st2) S2
  | cnt s2 => exact fun G2 σ2 H2 st2 S2 => h G2 σ2 H2 (st.trans st2) S2
  | ret r s2 => exact fun v G2 σ2 H2 st2 S2 rr => h v G2 σ2 H2 (st.trans st2) S2 (rr.less st.dom)
  | err x s2 => exact fun c d G2 σ2 H2 st2 S2 xr => h c d G2 σ2 H2 (st.trans st2) S2 xr
  | stuck => exact h
theorem fout_ends {fl : Flow} {D D' : Ends} (h : FOut K cl W G s σ H fl D) (h1 : ∀ σ H, D.nx σ H → D'.nx σ H) (h2 : ∀ v H, D.rt v H → D'.rt v H) (h3 : ∀ σ H, D.bk σ H → D'.bk σ H) (h4 : ∀ σ H, D.ct σ H → D'.ct σ H) : FOut K cl W G s σ H fl D' := by
  cases fl with
  | next s2 => exact fun G2 σ2 H2 st2 S2 => h1 _ _ (h G2 σ2 H2 st2 S2)
  | brk s2 => exact fun G2 σ2 H2 st2 S2 => h3 _ _ (h G2 σ2 H2 st2 S2)
  | cnt s2 => exact fun G2 σ2 H2 st2 S2 => h4 _ _ (h G2 σ2 H2 st2 S2)
  | ret r s2 => exact fun v G2 σ2 H2 st2 S2 rr => h2 _ _ (h v G2 σ2 H2 st2 S2 rr)
  | err x s2 => exact h
  | stuck => exact h
/-- a flow built on an expression's outcome -/
def onRes {α : Type} (r : Res α) (g : α → DSt → Flow) : Flow := match r with
  | .ok a s => g a s
  | .err x s => .err x s
  | .stuck => .stuck
theorem fout_res {α : Type} {r : Res α} {g : α → DSt → Flow} {D : Ends} (h : FOut K cl W G s σ H (onRes r g) D) : Out K cl W G s σ H r fun a G1 s1 H1 => FOut K cl W G s σ H (g a s1) D := by
  cases r with
  | ok a s1 => exact fun G1 H1 st S1 => h
  | err x s1 => exact fun c d G1 H1 st S1 xr => h c d G1 σ H1 st S1 xr
  | stuck => exact h
end
section
variable {X : Cx} {cl : String → Addr} {W : WX} {e a b c : Expr} {es : List Expr} {f g : M R} {fs : M (List R)} {pos : Pos} {st : Stmt} {rest : List Stmt} {p q : DSt → Flow}
theorem ss_nil : DSs X cl W [] fnext := pss_imp pss_nil fun D σ H ⟨G, s, S, h⟩ => h G σ H Stp.refl S
theorem ss_cons (h1 : DS X cl W st p) (h2 : DSs X cl W rest q) : DSs X cl W (st :: rest) (fseq p q) := by
  refine pss_imp (pss_cons h1 h2) fun D σ H ⟨G, s, S, h⟩ => ⟨G, s, S, ?_⟩
  unfold fseq at h
  cases z : p s with
  | next s' =>
    rw [z] at h
    exact fun G1 σ1 H1 st1 S1 => ⟨G1, s', S1, fout_shift st1 h⟩
  | brk s' => rw [z] at h; exact h
  | cnt s' => rw [z] at h; exact h
  | ret r s' => rw [z] at h; exact h
  | err x s' => rw [z] at h; exact h
  | stuck => rw [z] at h; exact h
theorem ss_one (h1 : DS X cl W st p) : DSs X cl W [st] p := pss_one h1
theorem s_pass : DS X cl W (.Pass pos) fnext := ps_imp ps_pass fun D σ H ⟨G, s, S, h⟩ => h G σ H Stp.refl S
def fbrk : DSt → Flow := fun s => .brk s
def fcnt : DSt → Flow := fun s => .cnt s
theorem s_break : DS X cl W (.Break pos) fbrk := ps_imp ps_break fun D σ H ⟨G, s, S, h⟩ => h G σ H Stp.refl S
theorem s_continue : DS X cl W (.Continue pos) fcnt := ps_imp ps_continue fun D σ H ⟨G, s, S, h⟩ => h G σ H Stp.refl S
def fnever : DSt → Flow := fun _ => .stuck
theorem s_never : DS X cl W st fnever := ps_imp ps_never fun D σ H ⟨G, s, S, h⟩ => h
def fDrop (f : M R) : DSt → Flow := fun s => onRes (f s) fun _ s' => .next s'
theorem s_expr (h : DE X cl W e f) (hs : swapsWith e none pos.line X.env = pure false := by rfl) : DS X cl W (.Expr e pos) (fDrop f) := by
  refine ps_imp (ps_expr h hs) fun D σ H ⟨G, s, S, h⟩ => ⟨G, s, S, out_mono (fout_res h) fun r G1 s1 H1 st1 S1 k v rr => ?_⟩
  exact k G1 σ H1 st1 S1
def fRet (f : M R) : DSt → Flow := fun s => onRes (f s) fun r s' => .ret r s'
theorem s_ret (h : DE X cl W e f) : DS X cl W (.Return (some e) pos) (fRet f) := by
  refine ps_imp (ps_ret h) fun D σ H ⟨G, s, S, h⟩ => ⟨G, s, S, out_mono (fout_res h) fun r G1 s1 H1 st1 S1 k v rr => ?_⟩
  exact k v G1 σ H1 st1 S1 rr
def fRetN : DSt → Flow := fun s => .ret (.val .none) s
theorem s_retN : DS X cl W (.Return none pos) fRetN := ps_imp ps_retN fun D σ H ⟨G, s, S, h⟩ => h _ G σ H Stp.refl S .non
def fIfS (c : M Bool) (p q : DSt → Flow) : DSt → Flow := fun s => onRes (c s) fun b s' => if b then p s' else q s'
theorem s_if {c : Expr} {t : M Bool} {as bs : List Stmt} (hc : DT X cl W c t) (ha : DSs X cl W as p) (hb : DSs X cl W bs q) : DS X cl W (.If c as bs pos) (fIfS t p q) := by
  refine ps_imp (ps_if hc ha hb) fun D σ H ⟨G, s, S, h⟩ => ⟨G, s, S, out_mono (fout_res h) fun b G1 s1 H1 st1 S1 k => ?_⟩
  cases b with
  | true => exact ⟨G1, s1, S1, fout_shift st1 k⟩
  | false => exact ⟨G1, s1, S1, fout_shift st1 k⟩
def fSet (i : Nat) (f : M R) : DSt → Flow := fun s => onRes (f s) fun r s' => if i < s'.d.length then match store i r s' with
  | some s2 => .next s2
  | none => .stuck
  else .stuck
theorem set_reads {i : Nat} {D : Ends} {σ : L2.St} {H : Hp} {K : PySem.W.Frag} (q : tS K cl W (fSet i f) D σ H) : tAsg (tD K cl W f) (gName i) D σ H := by
  obtain ⟨G, s, S, h⟩ := q
  refine ⟨G, s, S, out_mono (fout_res h) fun r G1 s1 H1 st1 S1 k v rr => ?_⟩
  split at k
  · rename_i hi
    split at k
    · rename_i s2 e
      obtain ⟨G2, st2, S2, _⟩ := store_good S1 st1 rr hi e
      exact k G2 _ H1 st2 S2
    · exact k.elim
  · exact k.elim
theorem s_set {i : Nat} {x : Str} {pos' : Pos} (hN : X.N.Nodup) (hi : X.N[i]? = some x) (hx : Loc X.env.scope x) (he : DE X cl W e f) (hs : swapsWith e (some (.Name x pos')) pos.line X.env = pure false := by rfl) (hf : X.fn x = true ∨ X.env.scope.names.lookup x = some .local := by first | exact .inl rfl | exact .inr rfl | assumption) :
    DS X cl W (.Assign [.Name x pos'] e pos) (fSet i f) := ps_imp (ps_set hN hi hx he hs hf) fun D σ H q => set_reads q
end
end DL

/-! DL7: targets, what is walked, loops, comprehensions -/
noncomputable section
namespace DL
open PySem L2 PyProof.Rows
open Evl (Ex)
/-! ### targets -/
abbrev Bd := PyData → DSt → Option DSt
/-- a target stores data: js are its slots -/
def GOk (K : PySem.W.Frag) (g : TG) (b : Bd) (js : List Nat) : Prop := ∀ (x : V) (d : PyData) (G : Hp) (s : DSt) (σ : L2.St) (H : Hp) (s' : DSt) (Q : L2.St → Hp → Prop), SA K G s σ H → Rp K G x d → b d s = some s' →
  (∀ σ', σ'.length = σ.length → (∀ i, i ∉ js → σ'[i]? = σ[i]?) → (∀ i : Nat, i ∉ js → s'.d[i]? = s.d[i]?) → s'.w = s.w → Stp G s σ H G s' σ' H → SA K G s' σ' H → Q σ' H) → g x σ H Q
def bName (i : Nat) : Bd := fun d s => if i < s.d.length then some (putS i (.val d) s) else none
theorem g_name {K : PySem.W.Frag} (i : Nat) : GOk K (gName i) (bName i) [i] := by
  intro x d G s σ H s' Q S rp e k
  unfold bName at e
  split at e
  · rename_i hi
    cases e
    refine k _ (by simp) (fun j hj => ?_) (fun j hj => ?_) rfl (put_stp S Stp.refl hi (by intro _ _ z; cases z)) (put_ok S hi ⟨x, rfl, rp⟩ (by intro _ _ z; cases z))
    · rw [List.getElem?_set_ne (fun z => hj (by simp [z]))]
    · simp only [putS]
      rw [List.getElem?_set_ne (fun z => hj (by simp [z]))]
  · cases e
abbrev Bds := List PyData → DSt → Option DSt
def GsOk (K : PySem.W.Frag) (g : TGs) (b : Bds) (js : List Nat) : Prop := ∀ (xs : List V) (ds : List PyData) (G : Hp) (s : DSt) (σ : L2.St) (H : Hp) (s' : DSt) (Q : L2.St → Hp → Prop), SA K G s σ H → RpAll K G xs ds → b ds s = some s' →
  (∀ σ', σ'.length = σ.length → (∀ i, i ∉ js → σ'[i]? = σ[i]?) → (∀ i : Nat, i ∉ js → s'.d[i]? = s.d[i]?) → s'.w = s.w → Stp G s σ H G s' σ' H → SA K G s' σ' H → Q σ' H) → g xs σ H Q
def bNil : Bds := fun ds s => match ds with
  | [] => some s
  | _ => none
def bCons (b : Bd) (bs : Bds) : Bds := fun ds s => match ds with
  | d :: r => match b d s with
    | some s' => bs r s'
    | none => none
  | [] => none
theorem g_nil {K : PySem.W.Frag} : GsOk K gNil bNil [] := by
  intro xs ds G s σ H s' Q S rp e k
  unfold bNil at e
  split at e
  · cases e
    cases rp
    exact ⟨rfl, k σ rfl (fun _ _ => rfl) (fun _ _ => rfl) rfl Stp.refl S⟩
  · cases e
theorem g_cons {K : PySem.W.Frag} {g : TG} {gs : TGs} {b : Bd} {bs : Bds} {js ks : List Nat} (h1 : GOk K g b js) (h2 : GsOk K gs bs ks) : GsOk K (gCons g gs) (bCons b bs) (js ++ ks) := by
  intro xs ds G s σ H s' Q S rp e k
  unfold bCons at e
  split at e
  · rename_i d r
    split at e
    · rename_i s1 e1
      cases rp with
      | cons rp1 rp2 =>
        refine ⟨_, _, rfl, h1 _ d G s σ H s1 _ S rp1 e1 fun σ1 l1 n1 m1 w1 st1 S1 => ?_⟩
        refine h2 _ r G s1 σ1 H s' _ S1 rp2 e fun σ2 l2 n2 m2 w2 st2 S2 => ?_
        exact k σ2 (l2.trans l1) (fun i hi => (n2 i fun z => hi (List.mem_append_right _ z)).trans (n1 i fun z => hi (List.mem_append_left _ z))) (fun i hi => (m2 i fun z => hi (List.mem_append_right _ z)).trans (m1 i fun z => hi (List.mem_append_left _ z))) (w2.trans w1) (st1.trans st2) S2
    · cases e
  · cases e
def bTup (n : Nat) (bs : Bds) : Bd := fun d s => match d with
  | .tuple ds => if ds.length = n then bs ds s else none
  | _ => none
theorem g_tup {K : PySem.W.Frag} {n : Nat} {gs : TGs} {bs : Bds} {js : List Nat} (h : GsOk K gs bs js) : GOk K (gTup K n gs) (bTup n bs) js := by
  intro x d G s σ H s' Q S rp e k
  unfold bTup at e
  split at e
  · split at e
    · rename_i ds hl
      cases rp with
      | tup hs ha => exact ⟨_, _, rfl, Evl.ex_t S.gh hs, by rw [dps_len ha]; exact hl, h _ ds G s σ H s' Q S ha e k⟩
    · cases e
  · cases e
def bUnl (n : Nat) (bs : Bds) : Bd := fun d s => match d with
  | .list ds => if ds.length = n then bs ds s else none
  | _ => none
theorem g_unl {K : PySem.W.Frag} {n : Nat} {gs : TGs} {bs : Bds} {js : List Nat} (h : GsOk K gs bs js) : GOk K (gUnl K n gs) (bUnl n bs) js := by
  intro x d G s σ H s' Q S rp e k
  unfold bUnl at e
  split at e
  · split at e
    · rename_i ds hl
      cases rp with
      | lst hs ha => exact ⟨_, _, rfl, .of (S.gh _ _ hs), by rw [dps_len ha]; exact hl, h _ ds G s σ H s' Q S ha e k⟩
    · cases e
  · cases e

/-! ### what is walked -/
def ItOk (K : PySem.W.Frag) (J : It) (ds : List PyData) (G : Hp) : Prop := ∀ (G' : Hp) (s' : DSt) (σ' : L2.St) (H' : Hp), Ex G G' → SA K G' s' σ' H' → ∀ i,
  (∀ d, ds[i]? = some d → J.go i H' ∧ ∀ x H2, J.yld i H' x H2 → ∃ G2, Stp G' s' σ' H' G2 s' σ' H2 ∧ SA K G2 s' σ' H2 ∧ Rp K G2 x d) ∧ (ds.length ≤ i → J.stop i H')
def tI (K : PySem.W.Frag) (cl : String → Addr) (W : WX) (f : M (List PyData)) : TI := fun σ H R => ∃ G s, SA K G s σ H ∧ Out K cl W G s σ H (f s) fun ds G' s' H' => ∀ J, ItOk K J ds G' → R J H'
section
variable {X : Cx} {cl : String → Addr} {W : WX} {e a b c tg iter : Expr} {es : List Expr} {f g : M R} {fs : M (List R)} {fi : M (List PyData)} {pos : Pos}
abbrev DI (X : Cx) (cl : String → Addr) (W : WX) (tg e : Expr) (f : M (List PyData)) : Prop := PI X tg e (tI X.K cl W f)
theorem pi_imp {t t' : TI} (h : PI X tg e t) (i : ∀ σ H R, t' σ H R → t σ H R) : PI X tg e t' := ⟨fun pins s σ H R I q => h.run pins s σ H R I (i σ H R q)⟩
theorem it_list {K : PySem.W.Frag} {G : Hp} {a : Addr} {xs : List V} {ds : List PyData} (h : G a = some (.lst xs)) (hd : RpAll K G xs ds) (uq : ∀ (G' : Hp) (s' : DSt) (σ' : L2.St) (H' : Hp), Ex G G' → SA K G' s' σ' H' → H' a = some (.lst xs)) : ItOk K (Itl K a) ds G := by
  intro G' s' σ' H' ex S i
  have hH := uq G' s' σ' H' ex S
  refine ⟨fun d e => ?_, fun hl => ⟨xs, .of hH, by rw [dps_len hd]; exact hl⟩⟩
  have hi : i < xs.length := by rw [dps_len hd]; exact (List.getElem?_eq_some_iff.mp e).1
  refine ⟨⟨xs, xs[i], .of hH, by simp [hi]⟩, fun x H2 ⟨e2, y⟩ => ?_⟩
  subst e2
  obtain ⟨d', e', r⟩ := dps_get hd (y xs (.of hH))
  rw [e] at e'
  cases e'
  exact ⟨G', Stp.refl, S, dp_mono ex _ _ r⟩
theorem it_tup {K : PySem.W.Frag} {G : Hp} {a : Addr} {xs : List V} {ds : List PyData} (h : SqT K G a xs) (hd : RpAll K G xs ds) : ItOk K (Itt K a) ds G := by
  intro G' s' σ' H' ex S i
  have hH := Evl.ex_t S.gh (Evl.ex_t ex h)
  refine ⟨fun d e => ?_, fun hl => ⟨xs, hH, by rw [dps_len hd]; exact hl⟩⟩
  have hi : i < xs.length := by rw [dps_len hd]; exact (List.getElem?_eq_some_iff.mp e).1
  refine ⟨⟨xs, xs[i], hH, by simp [hi]⟩, fun x H2 ⟨e2, y⟩ => ?_⟩
  subst e2
  obtain ⟨d', e', r⟩ := dps_get hd (y xs hH)
  rw [e] at e'
  cases e'
  exact ⟨G', Stp.refl, S, dp_mono ex _ _ r⟩
/-- a list or a tuple, walked -/
def iSeq (K : PySem.W.Frag) (tl : TE) : TI := fun σ H R => tl σ H fun x H1 => (∃ a, x = .ref a ∧ (∃ xs, SqL K H1 a xs) ∧ R (Itl K a) H1) ∨ ∃ a, x = .ref a ∧ (∃ xs, SqT K H1 a xs) ∧ R (Itt K a) H1
theorem pi_seq {l : Expr} {tl : TE} (hl : PE X l tl) : PI X tg l (iSeq X.K tl) := by
  refine ⟨fun pins s σ H R I h => ?_⟩
  refine thn (hl.run pins s σ H _ I h) fun v s1 ⟨x, H1, I1, r1, q1⟩ => ?_
  rcases q1 with ⟨a, e, ⟨xs, hq⟩, q⟩ | ⟨a, e, ⟨xs, hq⟩, q⟩
  · subst e
    cases r1
    obtain ⟨its, rv, p, hz⟩ := I1.list hq
    refine wpAny_pyIter_list p.isList ?_
    refine ⟨s1.heap.objs.size, [s1.heap.objs.size], _, _, H1, rfl, I1.kept (t' := s1.toks) fun b o e => Heap.get?_push_of_some _ e, turn_list a _, ⟨_, Heap.get?_push_size _ rfl, rfl, rfl⟩, fun b hb => ?_, q⟩
    have e : b = s1.heap.objs.size := by simpa using hb
    subst e
    exact I1.fpOk (Nat.le_refl _) (I1.hok.fresh (Nat.le_refl _))
  · subst e
    cases r1
    obtain ⟨its, rv, p, hz⟩ := I1.tuple hq
    refine wpAny_pyIter_tuple (show s1.heap.IsTuple a its.toArray from p) ?_
    refine ⟨s1.heap.objs.size, [s1.heap.objs.size], _, _, H1, rfl, I1.kept (t' := s1.toks) fun b o e => Heap.get?_push_of_some _ e, turn_tuple a _, ⟨_, Heap.get?_push_size _ rfl, rfl, rfl⟩, fun b hb => ?_, q⟩
    have e : b = s1.heap.objs.size := by simpa using hb
    subst e
    exact I1.fpOk (Nat.le_refl _) (I1.hok.fresh (Nat.le_refl _))
def fLstI (f : M R) : M (List PyData) := bnd f fun r => bnd (fEsc r) fun r' s => match r' with
  | .val (.list ds) => .ok ds s
  | .val (.tuple ds) => .ok ds s
  | _ => .stuck
theorem i_list (h : DE X cl W e f) : DI X cl W tg e (fLstI f) := by
  refine pi_imp (pi_seq h) fun σ H R ⟨G, s, S, q⟩ => ?_
  refine ⟨G, s, S, out_mono (out_esc q) fun r G1 s1 H1 st1 S1 k v rr => ?_⟩
  obtain ⟨G2, s2, r2, st2, S2, ar, ex, k2⟩ := k v rr
  split at k2
  · rename_i ds
    cases (show Rp X.K G2 v (.list ds) from ar) with
    | lst hs ha => exact .inl ⟨_, rfl, ⟨_, .of (S2.gh _ _ hs)⟩, k2 G2 H1 Stp.refl S2 _ (it_list hs ha fun G' s' σ' H' ex' S' => S'.gh _ _ (ex' _ _ hs))⟩
  · rename_i ds
    cases (show Rp X.K G2 v (.tuple ds) from ar) with
    | tup hs ha => exact .inr ⟨_, rfl, ⟨_, Evl.ex_t S2.gh hs⟩, k2 G2 H1 Stp.refl S2 _ (it_tup hs ha)⟩
  · exact k2.elim
def fTupI (f : M R) : M (List PyData) := bnd f fun r s => match look r s with
  | some (.tuple ds) => .ok ds s
  | _ => .stuck
theorem i_tup (h : DE X cl W e f) : DI X cl W tg e (fTupI f) := by
  refine pi_imp (pi_tup h) fun σ H R ⟨G, s, S, q⟩ => ?_
  refine ⟨G, s, S, out_mono (out_bind q) fun r G1 s1 H1 st1 S1 k v rr => ?_⟩
  split at k
  · rename_i ds e
    have hd := look_q S1 rr e
    cases (show Rp X.K G1 v (.tuple ds) from hd) with
    | tup hs ha => exact ⟨_, rfl, ⟨_, Evl.ex_t S1.gh hs⟩, k G1 H1 Stp.refl S1 _ (it_tup hs ha)⟩
  · exact k.elim
def rangeD (lo : Int) (n : Nat) : List PyData := (List.range n).map fun (k : Nat) => PyData.int (lo + (k : Int))
theorem it_range {K : PySem.W.Frag} {G : Hp} {lo : Int} {n : Nat} : ItOk K (Itr lo n) (rangeD lo n) G := by
  intro G' s' σ' H' ex S i
  refine ⟨fun d e => ?_, fun hl => show n ≤ i by simpa [rangeD] using hl⟩
  have hi : i < n := by have := (List.getElem?_eq_some_iff.mp e).1; simpa [rangeD] using this
  have e2 : d = .int (lo + (i : Int)) := by simp [rangeD, hi] at e; exact e.symm
  subst e2
  exact ⟨hi, fun x H2 ⟨e1, e3⟩ => by subst e1 e3; exact ⟨G', Stp.refl, S, .int _⟩⟩
def fRng1 (fs : M (List R)) : M (List PyData) := bnd fs fun rs s => match rs with
  | [r] => match look r s with
    | some (.int j) => if inB j then .ok (rangeD 0 j.toNat) s else .stuck
    | _ => .stuck
  | _ => .stuck
theorem i_range1 {p pos : Pos} (hg : Gl X "range") (hm : X.mg "range" = none) (ha : DA X cl W [a] fs) (hs : starEach [a] X.env = [(false, eval a X.env)] := by rfl) : DI X cl W tg (.Call (.Name "range" p) [a] [] pos) (fRng1 fs) := by
  refine pi_imp (pi_range1 hg hm ha hs) fun σ H R ⟨G, s, S, q⟩ => ?_
  refine ⟨G, s, S, out_mono (out_bind q) fun rs G1 s1 H1 st1 S1 k vs rr => ?_⟩
  split at k
  · rename_i r
    split at k
    · rename_i j e
      split at k
      · rename_i hb
        cases rr with
        | cons r1 r2 =>
          cases r2
          obtain rfl := dq_int (look_q S1 r1 e)
          exact ⟨j, rfl, hb.1, hb.2, k G1 H1 Stp.refl S1 _ it_range⟩
      · exact k.elim
    · exact k.elim
  · exact k.elim
def fRng2 (fs : M (List R)) : M (List PyData) := bnd fs fun rs s => match rs with
  | [r, r2] => match look r s, look r2 s with
    | some (.int i), some (.int j) => if inB i ∧ inB j then .ok (rangeD i (j - i).toNat) s else .stuck
    | _, _ => .stuck
  | _ => .stuck
theorem i_range2 {p pos : Pos} (hg : Gl X "range") (hm : X.mg "range" = none) (ha : DA X cl W [a, b] fs) (hs : starEach [a, b] X.env = [(false, eval a X.env), (false, eval b X.env)] := by rfl) (hs2 : starEach [b] X.env = [(false, eval b X.env)] := by rfl) :
    DI X cl W tg (.Call (.Name "range" p) [a, b] [] pos) (fRng2 fs) := by
  refine pi_imp (pi_range2 hg hm ha hs hs2) fun σ H R ⟨G, s, S, q⟩ => ?_
  refine ⟨G, s, S, out_mono (out_bind q) fun rs G1 s1 H1 st1 S1 k vs rr => ?_⟩
  split at k
  · split at k
    · rename_i i j e1 e2
      split at k
      · rename_i hb
        cases rr with
        | cons r1 r2 =>
          cases r2 with
          | cons r2 r3 =>
            cases r3
            obtain rfl := dq_int (look_q S1 r1 e1)
            obtain rfl := dq_int (look_q S1 r2 e2)
            exact ⟨i, j, rfl, ⟨hb.1.1, hb.1.2, hb.2.1, hb.2.2⟩, k G1 H1 Stp.refl S1 _ it_range⟩
      · exact k.elim
    · exact k.elim
  · exact k.elim
/-- enumerate(list) -/
def enumD (ds : List PyData) : List PyData := ds.zipIdx.map fun p => .tuple [.int (p.2 : Int), p.1]
theorem it_enum {K : PySem.W.Frag} {G : Hp} {a : Addr} {xs : List V} {ds : List PyData} (h : G a = some (.lst xs)) (hd : RpAll K G xs ds) : ItOk K (Ite K a) (enumD ds) G := by
  intro G' s' σ' H' ex S i
  have hH : H' a = some (.lst xs) := S.gh _ _ (ex _ _ h)
  refine ⟨fun d e => ?_, fun hl => ⟨xs, .of hH, by rw [dps_len hd]; simpa [enumD] using hl⟩⟩
  have hi : i < ds.length := by have := (List.getElem?_eq_some_iff.mp e).1; simpa [enumD] using this
  have hx : i < xs.length := by rw [dps_len hd]; exact hi
  have e2 : d = .tuple [.int (i : Int), ds[i]] := by
    simp [enumD, hi] at e
    exact e.symm
  subst e2
  refine ⟨⟨xs, xs[i], .of hH, by simp [hx]⟩, fun x H2 ⟨T, y, e3, hT, e4, hy⟩ => ?_⟩
  subst e3 e4
  obtain ⟨d', e', r⟩ := dps_get hd (hy xs (.of hH))
  have e5 : d' = ds[i] := by rw [List.getElem?_eq_getElem hi] at e'; exact (Option.some.inj e').symm
  subst e5
  obtain ⟨st, S2⟩ := new_known (.tup [.int (i : Nat), y]) S hT
  exact ⟨_, st, S2, .tup (.of upd_same) (.cons (.int _) (.cons (dp_mono (ex.trans st.ex) _ _ r) .nil))⟩
def fEnum (fs : M (List R)) : M (List PyData) := bnd fs fun rs s => match rs with
  | [.val (.list ds)] => .ok (enumD ds) s
  | _ => .stuck
theorem i_enum {p pos tpos : Pos} {elts : List Expr} {kk : Nat} (hg : Gl X "enumerate") (hm : X.mg "enumerate" = none) (ha : DAe X cl W [e] fs) (hs : starEach [e] X.env = [(false, eval e X.env)] := by rfl) :
    DI X cl W (.Tuple elts kk tpos) (.Call (.Name "enumerate" p) [e] [] pos) (fEnum fs) := by
  refine pi_imp (pi_enum hg hm ha hs) fun σ H R ⟨G, s, S, q⟩ => ?_
  refine ⟨G, s, S, out_mono (out_bind q) fun rs G1 s1 H1 st1 S1 k vs rr => ?_⟩
  split at k
  · rename_i ds
    cases rr with
    | cons r1 r2 =>
      cases r2
      cases (show Rp X.K G1 _ (.list ds) from r1) with
      | lst h ha => exact ⟨_, _, rfl, .of (S1.gh _ _ h), k G1 H1 Stp.refl S1 _ (it_enum h ha)⟩
  · exact k.elim
/-- zip(list, list) -/
def zipD (ds es : List PyData) : List PyData := (ds.zip es).map fun p => .tuple [p.1, p.2]
theorem it_zip {K : PySem.W.Frag} {G : Hp} {a b : Addr} {xs ys : List V} {ds es : List PyData} (h : G a = some (.lst xs)) (hd : RpAll K G xs ds) (h2 : G b = some (.lst ys)) (hd2 : RpAll K G ys es) : ItOk K (Itz K a b) (zipD ds es) G := by
  intro G' s' σ' H' ex S i
  have hH : H' a = some (.lst xs) := S.gh _ _ (ex _ _ h)
  have hH2 : H' b = some (.lst ys) := S.gh _ _ (ex _ _ h2)
  refine ⟨fun d e => ?_, fun hl => ⟨xs, ys, .of hH, .of hH2, ?_⟩⟩
  · have hi : i < ds.length ∧ i < es.length := by have := (List.getElem?_eq_some_iff.mp e).1; simp [zipD] at this; omega
    have hx : i < xs.length := by rw [dps_len hd]; exact hi.1
    have hy : i < ys.length := by rw [dps_len hd2]; exact hi.2
    have e2 : d = .tuple [ds[i], es[i]] := by
      have hz : i < (ds.zip es).length := by simp; omega
      simp only [zipD, List.getElem?_map, List.getElem?_eq_getElem hz, Option.map_some, List.getElem_zip] at e
      exact (Option.some.inj e).symm
    subst e2
    refine ⟨⟨xs, ys, xs[i], ys[i], .of hH, .of hH2, by simp [hx], by simp [hy]⟩, fun x H2 ⟨T, y, z, e3, hT, e4, q1, q2⟩ => ?_⟩
    subst e3 e4
    obtain ⟨d', e', r⟩ := dps_get hd (q1 xs (.of hH))
    obtain ⟨d2, e5, r2⟩ := dps_get hd2 (q2 ys (.of hH2))
    have e6 : d' = ds[i] := by rw [List.getElem?_eq_getElem hi.1] at e'; exact (Option.some.inj e').symm
    have e7 : d2 = es[i] := by rw [List.getElem?_eq_getElem hi.2] at e5; exact (Option.some.inj e5).symm
    subst e6 e7
    obtain ⟨st, S2⟩ := new_known (.tup [y, z]) S hT
    exact ⟨_, st, S2, .tup (.of upd_same) (.cons (dp_mono (ex.trans st.ex) _ _ r) (.cons (dp_mono (ex.trans st.ex) _ _ r2) .nil))⟩
  · rw [dps_len hd, dps_len hd2]
    simp [zipD] at hl
    omega
def fZip (fs : M (List R)) : M (List PyData) := bnd fs fun rs s => match rs with
  | [.val (.list ds), .val (.list es)] => .ok (zipD ds es) s
  | _ => .stuck
theorem i_zip {e2 : Expr} {p pos tpos : Pos} {elts : List Expr} {kk : Nat} (hg : Gl X "zip") (hm : X.mg "zip" = none) (ha : DAe X cl W [e, e2] fs) (h : ∀ {ta : TA}, PA X [e, e2] ta → PI X (.Tuple elts kk tpos) (.Call (.Name "zip" p) [e, e2] [] pos) (iZip X.K ta) := by intro ta h; exact pi_zip (by rfl) (by assumption) h) :
    DI X cl W (.Tuple elts kk tpos) (.Call (.Name "zip" p) [e, e2] [] pos) (fZip fs) := by
  refine pi_imp (h ha) fun σ H R ⟨G, s, S, q⟩ => ?_
  refine ⟨G, s, S, out_mono (out_bind q) fun rs G1 s1 H1 st1 S1 k vs rr => ?_⟩
  split at k
  · rename_i ds es
    cases rr with
    | cons r1 r2 =>
      cases r2 with
      | cons r2 r3 =>
        cases r3
        cases (show Rp X.K G1 _ (.list ds) from r1) with
        | lst h ha =>
          cases (show Rp X.K G1 _ (.list es) from r2) with
          | lst h' ha' => exact ⟨_, _, _, _, rfl, .of (S1.gh _ _ h), .of (S1.gh _ _ h'), k G1 H1 Stp.refl S1 _ (it_zip h ha h' ha')⟩
  · exact k.elim
end
end DL

/-! DL8: loops, comprehensions -/
noncomputable section
namespace DL
open PySem L2 PyProof.Rows
open Evl (Ex)
def loopF (b : Bd) (p : DSt → Flow) : List PyData → DSt → Flow
  | [], s => .next s
  | d :: ds, s => match b d s with
    | none => .stuck
    | some s1 => match p s1 with
      | .next s2 => loopF b p ds s2
      | .cnt s2 => loopF b p ds s2
      | .brk s2 => .next s2
      | .ret r s2 => .ret r s2
      | .err x s2 => .err x s2
      | .stuck => .stuck
def fFor (fi : M (List PyData)) (b : Bd) (p : DSt → Flow) : DSt → Flow := fun s => onRes (fi s) fun ds s' => loopF b p ds s'
def whileF (c : M Bool) (p : DSt → Flow) : Nat → DSt → Flow
  | 0, _ => .stuck
  | n + 1, s => onRes (c s) fun t s1 => if t then match p s1 with
      | .next s2 => whileF c p n s2
      | .cnt s2 => whileF c p n s2
      | .brk s2 => .next s2
      | .ret r s2 => .ret r s2
      | .err x s2 => .err x s2
      | .stuck => .stuck
    else .next s1
section
variable {X : Cx} {cl : String → Addr} {W : WX} {e a b c tg iter : Expr} {es : List Expr} {f g : M R} {fs : M (List R)} {fi : M (List PyData)} {pos : Pos} {p q : DSt → Flow}
theorem s_for {body : List Stmt} {gg : TG} {bd : Bd} {js : List Nat} (hp : PassesOwn (model X.prog X.w) X.A X.env X.xe) (hc : X.calm = true) (hi : DI X cl W tg iter fi) (hg : PG X tg gg) (ho : GOk X.K gg bd js) (hb : DSs X cl W body p)
    (hs : ∀ x, foldedSetIterable iter X.env x = pure x := by intro _; rfl) : DS X cl W (.For tg iter body [] pos) (fFor fi bd p) := by
  refine ps_imp (ps_for hp hc hi hg hb hs) fun D σ H ⟨G, s, S, h⟩ => ⟨G, s, S, out_mono (fout_res h) fun ds G1 s1 H1 st1 S1 k J hJ => ?_⟩
  have k := fout_shift st1 k
  refine ⟨fun i m σ2 H2 => ∃ G2 s2, SA X.K G2 s2 σ2 H2 ∧ Ex G1 G2 ∧ m = ds.length - i ∧ i ≤ ds.length ∧ FOut X.K cl W G2 s2 σ2 H2 (loopF bd p (ds.drop i) s2) D, ⟨ds.length, G1, s1, S1, Ex.refl G1, by simp, Nat.zero_le _, by simpa using k⟩, ?_⟩
  rintro i m σ2 H2 ⟨G2, s2, S2, ex2, rfl, hi, k2⟩
  obtain ⟨j1, j2⟩ := hJ G2 s2 σ2 H2 ex2 S2 i
  by_cases hl : i < ds.length
  · obtain ⟨go, yl⟩ := j1 ds[i] (List.getElem?_eq_getElem hl)
    rw [List.drop_eq_getElem_cons hl] at k2
    refine .inr ⟨go, fun σ3 H3 => ∃ G3 s3, SA X.K G3 s3 σ3 H3 ∧ Ex G1 G3 ∧ FOut X.K cl W G3 s3 σ3 H3 (loopF bd p (ds.drop (i + 1)) s3) D, fun σ3 H3 ⟨G3, s3, S3, ex3, k3⟩ => ⟨ds.length - (i + 1), by omega, G3, s3, S3, ex3, rfl, hl, k3⟩, fun x H3 y => ?_⟩
    obtain ⟨G3, st3, S3, rp⟩ := yl x H3 y
    unfold loopF at k2
    cases q : bd ds[i] s2 with
    | none => rw [q] at k2; exact k2.elim
    | some s4 =>
      rw [q] at k2
      refine ho x ds[i] G3 s2 σ2 H3 s4 _ S3 rp q fun σ4 l4 n4 m4 w4 st4 S4 => ⟨G3, s4, S4, ?_⟩
      have st34 := st3.trans st4
      have k2 := fout_shift st34 k2
      have ex4 := ex2.trans st34.ex
      dsimp only at k2 ⊢
      cases z : p s4 with
      | next s5 => rw [z] at k2; exact fun G5 σ5 H5 st5 S5 => ⟨G5, s5, S5, ex4.trans st5.ex, fout_shift st5 k2⟩
      | cnt s5 => rw [z] at k2; exact fun G5 σ5 H5 st5 S5 => ⟨G5, s5, S5, ex4.trans st5.ex, fout_shift st5 k2⟩
      | brk s5 => rw [z] at k2; exact fun G5 σ5 H5 st5 S5 => k2 G5 σ5 H5 st5 S5
      | ret r s5 => rw [z] at k2; exact k2
      | err x s5 => rw [z] at k2; exact k2
      | stuck => rw [z] at k2; exact k2
  · have e : i = ds.length := by omega
    subst e
    rw [List.drop_length] at k2
    exact .inl ⟨j2 (Nat.le_refl _), k2 G2 σ2 H2 Stp.refl S2⟩
theorem s_while {body : List Stmt} {t : M Bool} (n : Nat) (hp : PassesOwn (model X.prog X.w) X.A X.env X.xe) (hc : DT X cl W c t) (hb : DSs X cl W body p) : DS X cl W (.While c body [] pos) (whileF t p n) := by
  refine ps_imp (ps_while hp hc hb) fun D σ H ⟨G, s, S, h⟩ => ?_
  refine ⟨fun m σ2 H2 => ∃ G2 s2, SA X.K G2 s2 σ2 H2 ∧ FOut X.K cl W G2 s2 σ2 H2 (whileF t p m s2) D, ⟨n, G, s, S, h⟩, ?_⟩
  rintro m σ2 H2 ⟨G2, s2, S2, k2⟩
  cases m with
  | zero => exact k2.elim
  | succ m =>
    refine ⟨G2, s2, S2, out_mono (fout_res k2) fun b G3 s3 H3 st3 S3 k3 => ?_⟩
    have k3 := fout_shift st3 k3
    cases b with
    | false => exact k3 G3 σ2 H3 Stp.refl S3
    | true =>
      refine ⟨fun σ4 H4 => ∃ G4 s4, SA X.K G4 s4 σ4 H4 ∧ FOut X.K cl W G4 s4 σ4 H4 (whileF t p m s4) D, fun σ4 H4 ⟨G4, s4, S4, k4⟩ => ⟨m, Nat.lt_succ_self _, G4, s4, S4, k4⟩, G3, s3, S3, ?_⟩
      simp only [if_true] at k3
      cases z : p s3 with
      | next s5 => rw [z] at k3; exact fun G5 σ5 H5 st5 S5 => ⟨G5, s5, S5, fout_shift st5 k3⟩
      | cnt s5 => rw [z] at k3; exact fun G5 σ5 H5 st5 S5 => ⟨G5, s5, S5, fout_shift st5 k3⟩
      | brk s5 => rw [z] at k3; exact fun G5 σ5 H5 st5 S5 => k3 G5 σ5 H5 st5 S5
      | ret r s5 => rw [z] at k3; exact k3
      | err x s5 => rw [z] at k3; exact k3
      | stuck => rw [z] at k3; exact k3
/-- target = e by a pattern -/
def fAsgB (f : M R) (bd : Bd) : DSt → Flow := fun s => onRes (bnd f fEsc s) fun r s' => match r with
  | .val d => match bd d s' with
    | some s2 => .next s2
    | none => .stuck
  | _ => .stuck
theorem out_esc1 {K : PySem.W.Frag} {G : Hp} {s : DSt} {σ : L2.St} {H : Hp} {f : Res R} {k : R → Hp → DSt → Hp → Prop} (h : Out K cl W G s σ H (f.bind fEsc) k) :
    Out K cl W G s σ H f fun r G1 s1 H1 => ∀ v, RRel K H G1 s1 σ H1 v r → ∃ G2 s2 r2, Stp G s σ H G2 s2 σ H1 ∧ SA K G2 s2 σ H1 ∧ AR K G2 v r2 ∧ Ex G1 G2 ∧ esc r s1 = some (r2, s2) ∧ k r2 G2 s2 H1 := by
  cases f with
  | ok r s1 =>
    intro G1 H1 st S1 v rr
    have h : Out K cl W G s σ H (fEsc r s1) k := h
    unfold fEsc at h
    cases e : esc r s1 with
    | none => rw [e] at h; exact h.elim
    | some p =>
      obtain ⟨r2, s2⟩ := p
      rw [e] at h
      obtain ⟨G2, st2, S2, ex, ar⟩ := esc_ok S1 st rr e
      exact ⟨G2, s2, r2, st2, S2, ar, ex, rfl, h G2 H1 st2 S2⟩
  | err x s1 => exact h
  | stuck => exact h
theorem s_asgB {gg : TG} {bd : Bd} {js : List Nat} (he : DE X cl W e f) (hg : PG X tg gg) (ho : GOk X.K gg bd js) (hs : swapsWithSole [tg] e pos.line X.env = pure false := by rfl) (hw : swappedStores [tg] e X.env = pure none := by rfl)
    (h1 : (assignEach [tg] X.env).map (·.2) = [assign tg X.env] := by rfl) : DS X cl W (.Assign [tg] e pos) (fAsgB f bd) := by
  refine ps_imp (ps_asg he hg hs hw h1) fun D σ H ⟨G, s, S, h⟩ => ⟨G, s, S, ?_⟩
  have h' : Out X.K cl W G s σ H ((f s).bind fEsc) fun r G2 s2 H1 => ∀ v, AR X.K G2 v r → gg v σ H1 D.nx := by
    have h := fout_res h
    refine out_mono h fun r G1 s1 H1 st1 S1 k v ar => ?_
    split at k
    · rename_i d
      split at k
      · rename_i s2 e
        exact ho v d G1 s1 σ H1 s2 _ S1 ar e fun σ2 _ _ _ _ st2 S2 => k G1 σ2 H1 (st1.trans st2) S2
      · exact k.elim
    · exact k.elim
  refine out_mono (out_esc1 h') fun r G1 s1 H1 st1 S1 k v rr => ?_
  obtain ⟨G2, s2, r2, st2, S2, ar, ex, _, k2⟩ := k v rr
  exact k2 v ar

/-! ### comprehensions -/
/-- the slots at vs taken back from an elder state -/
def putBack (vs : List Nat) (old new : List Sl) : List Sl := vs.foldl (fun l v => l.set v (old.getD v .no)) new
def blank (vs : List Nat) (d : List Sl) : List Sl := vs.foldl (fun l v => l.set v .no) d
def noOwn (vs : List Nat) (d : List Sl) : Bool := vs.all fun v => match d[v]? with
  | some (.own _) => false
  | _ => true
def nerr {α : Type} (r : Res α) : Res α := match r with
  | .err _ _ => .stuck
  | r => r
def loopC (b : Bd) (ft : M Bool) (fe : M R) (vs : List Nat) : List PyData → List PyData → M (List PyData)
  | [], acc, s => .ok acc s
  | d :: ds, acc, s => if noOwn vs s.d then match b d { s with d := blank vs s.d } with
      | none => .stuck
      | some s1 => (nerr (ft s1)).bind fun t s2 => if t then (nerr (bnd fe fEsc s2)).bind fun r s3 => match r with
            | .val x => loopC b ft fe vs ds (acc ++ [x]) { s3 with d := putBack vs s.d s3.d }
            | _ => .stuck
          else loopC b ft fe vs ds acc { s2 with d := putBack vs s.d s2.d }
    else .stuck
def fLc (fi : M (List PyData)) (b : Bd) (ft : M Bool) (fe : M R) (vs : List Nat) : M R := bnd fi fun ds => bnd (fun s => if leS (ds.length) then loopC b ft fe vs ds [] s else .stuck) fun acc => ret (.new acc)
theorem blank_get (d : List Sl) (i : Nat) : ∀ vs : List Nat, (blank vs d)[i]? = if i ∈ vs then (if i < d.length then some .no else none) else d[i]? := by
  intro vs
  unfold blank
  induction vs generalizing d with
  | nil => simp
  | cons v vs ih =>
    rw [List.foldl_cons, ih]
    by_cases h : i ∈ vs
    · simp [h]
    · by_cases hv : i = v
      · subst hv; simp [h, List.getElem?_set]
      · simp [h, hv, List.getElem?_set_ne (Ne.symm hv)]
theorem blank_len (d : List Sl) : ∀ vs : List Nat, (blank vs d).length = d.length := by
  intro vs
  unfold blank
  induction vs generalizing d with
  | nil => rfl
  | cons v vs ih => rw [List.foldl_cons, ih]; simp
theorem back_len (old new : List Sl) : ∀ vs : List Nat, (putBack vs old new).length = new.length := by
  intro vs
  unfold putBack
  induction vs generalizing new with
  | nil => rfl
  | cons v vs ih => rw [List.foldl_cons, ih]; simp
theorem back_get (old new : List Sl) (i : Nat) : ∀ vs : List Nat, (putBack vs old new)[i]? = if i ∈ vs then (if i < new.length then some (old.getD i .no) else none) else new[i]? := by
  intro vs
  unfold putBack
  induction vs generalizing new with
  | nil => simp
  | cons v vs ih =>
    rw [List.foldl_cons, ih]
    by_cases h : i ∈ vs
    · simp [h]
    · by_cases hv : i = v
      · subst hv; simp [h, List.getElem?_set]
      · simp [h, hv, List.getElem?_set_ne (Ne.symm hv)]
theorem wipe_get (σ : L2.St) (i : Nat) : ∀ vs : List Nat, (wipe σ vs)[i]? = if i ∈ vs then (if i < σ.length then some none else none) else σ[i]? := by
  intro vs
  induction vs with
  | nil => simp [wipe]
  | cons v vs ih =>
    unfold wipe
    by_cases hv : i = v
    · subst hv
      simp [List.getElem?_set, wipe_length]
    · rw [List.getElem?_set_ne (Ne.symm hv), ih]
      simp [hv]
theorem wipe_same {σ σ' : L2.St} {vs : List Nat} (hl : σ'.length = σ.length) (h : ∀ i, i ∉ vs → σ'[i]? = σ[i]?) : wipe σ' vs = wipe σ vs := by
  apply List.ext_getElem?
  intro i
  rw [wipe_get, wipe_get, hl]
  by_cases q : i ∈ vs
  · simp [q]
  · simp [q, h i q]
theorem wipe_wipe (σ : L2.St) (vs : List Nat) : wipe (wipe σ vs) vs = wipe σ vs := wipe_same (wipe_length _ _) fun i hi => by rw [wipe_get]; simp [hi]
section
variable {K : PySem.W.Frag} {G H : Hp} {s : DSt} {σ : L2.St}
theorem own_blank {vs : List Nat} {i : Nat} {a : Addr} (h : OwnAt { s with d := blank vs s.d } (wipe σ vs) i a) : OwnAt s σ i a ∧ i ∉ vs := by
  obtain ⟨⟨ds, e⟩, h⟩ := h
  simp only [blank_get] at e
  by_cases q : i ∈ vs
  · rw [if_pos q] at e; split at e <;> cases e
  · rw [if_neg q] at e
    rw [wipe_get, if_neg q] at h
    exact ⟨⟨⟨ds, e⟩, h⟩, q⟩
theorem sa_blank (vs : List Nat) (S : SA K G s σ H) (hn : noOwn vs s.d = true) : Stp G s σ H G { s with d := blank vs s.d } (wipe σ vs) H ∧ SA K G { s with d := blank vs s.d } (wipe σ vs) H := by
  refine ⟨⟨Ex.refl G, fun a o h _ => ⟨h, rfl⟩, fun a z => .inl ?_, fun a h => h, fun a h => h⟩, ⟨by simp [blank_len, wipe_length, S.len], S.gh, fun i sl h => ?_, fun i j a h1 h2 => S.inj i j a (own_blank h1).1 (own_blank h2).1, fun i a h => S.ownG i a (own_blank h).1, S.pw, fun i a h => S.pne i a (own_blank h).1⟩⟩
  · rcases z with ⟨i, z⟩ | z
    · exact .inl ⟨i, (own_blank z).1⟩
    · exact .inr z
  · simp only [blank_get] at h
    by_cases q : i ∈ vs
    · rw [if_pos q] at h
      split at h
      · cases h; trivial
      · cases h
    · rw [if_neg q] at h
      rw [wipe_get, if_neg q]
      exact S.slot i sl h
/-- behind the block: the block's names as before it -/
theorem sa_back {G2 H2 : Hp} {s2 : DSt} {σ2 : L2.St} {vs : List Nat} (S : SA K G s σ H) (hn : noOwn vs s.d = true) (S2 : SA K G2 s2 σ2 H2) (ex : Ex G G2) (hw : wipe σ2 vs = wipe σ vs) :
    SA K G2 { s2 with d := putBack vs s.d s2.d } σ H2 ∧ ∀ a, Own { s2 with d := putBack vs s.d s2.d } σ a → Own s2 σ2 a := by
  have hl : σ2.length = σ.length := by rw [← wipe_length σ2 vs, hw, wipe_length]
  have hs : ∀ i, i ∉ vs → σ2[i]? = σ[i]? := fun i hi => by
    have := congrArg (fun l : L2.St => l[i]?) hw
    simp only [wipe_get, if_neg hi] at this
    exact this
  have ho : ∀ i a, OwnAt { s2 with d := putBack vs s.d s2.d } σ i a → OwnAt s2 σ2 i a := by
    rintro i a ⟨⟨ds, e⟩, h⟩
    simp only [back_get] at e
    by_cases q : i ∈ vs
    · rw [if_pos q] at e
      split at e
      · have e := Option.some.inj e
        have hn := List.all_eq_true.mp hn i q
        have e2 : s.d[i]? = some (.own ds) := by
          rw [List.getD_eq_getElem?_getD] at e
          cases z : s.d[i]? with
          | none => rw [z] at e; cases e
          | some o => rw [z] at e; simp at e; rw [e]
        rw [e2] at hn
        cases hn
      · cases e
    · rw [if_neg q] at e
      exact ⟨⟨ds, e⟩, by rw [hs i q]; exact h⟩
  refine ⟨⟨by simp [back_len, S2.len, hl], S2.gh, fun i sl h => ?_, fun i j a h1 h2 => S2.inj i j a (ho i a h1) (ho j a h2), fun i a h => S2.ownG i a (ho i a h), S2.pw, fun i a h => S2.pne i a (ho i a h)⟩, fun a z => ?_⟩
  · simp only [back_get] at h
    by_cases q : i ∈ vs
    · rw [if_pos q] at h
      split at h
      · have h := Option.some.inj h
        have hn := List.all_eq_true.mp hn i q
        rw [List.getD_eq_getElem?_getD] at h
        cases z : s.d[i]? with
        | none => rw [z] at h; simp at h; subst h; trivial
        | some o =>
          rw [z] at h
          simp at h
          subst h
          have sl := S.slot i _ z
          cases o with
          | no => trivial
          | val d => obtain ⟨v, e, hd⟩ := sl; exact ⟨v, e, dp_mono ex _ _ hd⟩
          | raw v => exact sl
          | ob o => obtain ⟨v, e, hd⟩ := sl; exact ⟨v, e, ob_mono ex hd⟩
          | own ds => rw [z] at hn; cases hn
      · cases h
    · rw [if_neg q] at h
      rw [← hs i q]
      exact S2.slot i sl h
  · rcases z with ⟨i, z⟩ | z
    · exact .inl ⟨i, ho i a z⟩
    · exact .inr z
end
theorem sa_write {K : PySem.W.Frag} {G H : Hp} {s : DSt} {σ : L2.St} {D : Addr} {o : HO} (S : SA K G s σ H) (hg : G D = none) (hn : ¬ Own s σ D) : SA K G s σ (upd H D o) := by
  refine ⟨S.len, fun a u h => ?_, fun i sl h => ?_, S.inj, S.ownG, ?_, S.pne⟩
  · rw [upd_ne fun z => by subst z; rw [hg] at h; cases h]; exact S.gh a u h
  · have q := S.slot i sl h
    cases sl with
    | no => trivial
    | val d => exact q
    | raw v => exact q
    | ob o => exact q
    | own es =>
      obtain ⟨a, xs, e, ha, hh⟩ := q
      refine ⟨a, xs, e, ?_, hh⟩
      rw [upd_ne fun z => hn (by
        subst z
        refine .inl ⟨i, ⟨es, h⟩, ?_⟩
        cases w : σ[i]? with
        | none => rw [w] at e; cases e
        | some o => rw [w] at e; simp at e; rw [e])]
      exact ha
  · have q := S.pw
    unfold PwOk at q ⊢
    split
    · trivial
    · rename_i pa ca cells t e
      rw [e] at q
      refine ⟨q.1, ?_, ?_, q.2.2.2⟩
      · rw [upd_ne fun z => hn (by subst z; exact .inr (by rw [e]; exact .inl rfl))]; exact q.2.1
      · rw [upd_ne fun z => hn (by subst z; exact .inr (by rw [e]; exact .inr rfl))]; exact q.2.2.1
/-- the reading of a comprehension -/
theorem lc_reads {K : PySem.W.Frag} {gg : TG} {bd : Bd} {js vs : List Nat} {ft : M Bool} {fe : M R} {fi : M (List PyData)} (ho : GOk K gg bd js) (hj : ∀ j ∈ js, j ∈ vs) {σ : L2.St} {H : Hp} {Q : VK} (q : tD K cl W (fLc fi bd ft fe vs) σ H Q) :
    tLc (tI K cl W fi) gg (tT K cl (fun _ _ _ _ => False) ft) (tD K cl (fun _ _ _ _ => False) fe) vs σ H Q := by
  obtain ⟨G, s, S, q⟩ := q
  refine ⟨G, s, S, out_mono (out_bind q) fun ds G1 s1 H1 st1 S1 k J hJ D hD => ?_⟩
  have k : Out K cl W G1 s1 σ H1 (if leS (ds.length) then loopC bd ft fe vs ds [] s1 else .stuck) _ := out_bind k
  by_cases hz : leS ds.length
  rotate_left
  · rw [if_neg hz] at k; exact k.elim
  rw [if_pos hz] at k
  have hz : ds.length ≤ sizeLine := hz
  obtain ⟨stD, SD, rrD⟩ := new_list (ds := []) S1 hD .nil st1.dom
  obtain ⟨aD, xD, eD, _, _, gD, _, nD⟩ := rrD
  cases eD
  refine ⟨fun i m H2 => ∃ G2 s2 acc accv, SA K G2 s2 σ H2 ∧ Stp G1 s1 σ H1 G2 s2 σ H2 ∧ H2 D = some (.lst accv) ∧ RpAll K G2 accv acc ∧ G2 D = none ∧ ¬ Own s2 σ D ∧ acc.length ≤ i ∧ m = ds.length - i ∧ i ≤ ds.length ∧
      Out K cl W G1 s1 σ H1 (loopC bd ft fe vs (ds.drop i) acc s2) _, ⟨ds.length, G1, s1, [], [], SD, stD, upd_same, .nil, gD, nD, Nat.le_refl _, by simp, Nat.zero_le _, by simpa using k⟩, ?_⟩
  rintro i m H2 ⟨G2, s2, acc, accv, S2, st2, hD2, hacc, gD2, nD2, hla, rfl, hi, k2⟩
  obtain ⟨j1, j2⟩ := hJ G2 s2 σ H2 st2.ex S2 i
  by_cases hl : i < ds.length
  · obtain ⟨go, yl⟩ := j1 ds[i] (List.getElem?_eq_getElem hl)
    rw [List.drop_eq_getElem_cons hl] at k2
    unfold loopC at k2
    refine .inr ⟨go, fun H3 => ∃ G3 s3 acc accv, SA K G3 s3 σ H3 ∧ Stp G1 s1 σ H1 G3 s3 σ H3 ∧ H3 D = some (.lst accv) ∧ RpAll K G3 accv acc ∧ G3 D = none ∧ ¬ Own s3 σ D ∧ acc.length ≤ i + 1 ∧
      Out K cl W G1 s1 σ H1 (loopC bd ft fe vs (ds.drop (i + 1)) acc s3) _, fun H3 ⟨G3, s3, acc, accv, a1, a2, a3, a4, a5, a6, a7, a8⟩ => ⟨ds.length - (i + 1), by omega, G3, s3, acc, accv, a1, a2, a3, a4, a5, a6, a7, rfl, hl, a8⟩, fun x H3 y => ?_⟩
    by_cases hn : noOwn vs s2.d = true
    rotate_left
    · rw [if_neg hn] at k2; exact k2.elim
    rw [if_pos hn] at k2
    obtain ⟨stB, SB⟩ := sa_blank vs S2 hn
    obtain ⟨j3, _⟩ := hJ G2 _ _ H2 st2.ex SB i
    obtain ⟨_, yl⟩ := j3 ds[i] (List.getElem?_eq_getElem hl)
    obtain ⟨G3, st3, S3, rp⟩ := yl x H3 y
    cases eb : bd ds[i] { s2 with d := blank vs s2.d } with
    | none => rw [eb] at k2; exact k2.elim
    | some s4 =>
      rw [eb] at k2
      refine ho x ds[i] G3 _ (wipe σ vs) H3 s4 _ S3 rp eb fun σ4 l4 n4 m4 w4 st4 S4 => ?_
      have hw : wipe σ4 vs = wipe σ vs := (wipe_same l4 fun i hi => n4 i fun z => hi (hj i z)).trans (wipe_wipe σ vs)
      refine ⟨hw, G3, s4, S4, ?_⟩
      have stA := (stB.trans st3).trans st4
      -- what holds behind the turn
      have fin : ∀ {G5 : Hp} {s5 : DSt} {H5 : Hp}, Stp G2 s2 σ H2 G5 s5 σ4 H5 → SA K G5 s5 σ4 H5 → SA K G5 { s5 with d := putBack vs s2.d s5.d } σ H5 ∧ Stp G1 s1 σ H1 G5 { s5 with d := putBack vs s2.d s5.d } σ H5 ∧ H5 D = some (.lst accv) ∧ G5 D = none ∧ ¬ Own { s5 with d := putBack vs s2.d s5.d } σ D := by
        intro G5 s5 H5 st5 S5
        obtain ⟨b1, b2⟩ := sa_back S2 hn S5 st5.ex hw
        obtain ⟨c1, c2⟩ := st5.keep D _ hD2 nD2
        have st6 : Stp G2 s2 σ H2 G5 { s5 with d := putBack vs s2.d s5.d } σ H5 := ⟨st5.ex, st5.keep, fun a z => st5.own a (b2 a z), st5.dom, st5.pw⟩
        exact ⟨b1, st2.trans st6, c1, c2.trans gD2, fun z => (st6.own D z).elim nD2 fun z => by rw [hD2] at z; cases z⟩
      have k2 : Out K cl W G1 s1 σ H1 ((nerr (ft s4)).bind _) _ := k2
      cases et : ft s4 with
      | err x s5 => rw [et] at k2; exact k2.elim
      | stuck => rw [et] at k2; exact k2.elim
      | ok t s5 =>
        rw [et] at k2
        intro G5 H5 st5 S5
        have st25 := stA.trans st5
        cases t with
        | false =>
          obtain ⟨b1, b2, b3, b4, b5⟩ := fin st25 S5
          exact ⟨G5, _, acc, accv, b1, b2, b3, dps_mono st25.ex _ _ hacc, b4, b5, Nat.le_succ_of_le hla, k2⟩
        | true =>
          have k2 : Out K cl W G1 s1 σ H1 ((nerr (bnd fe fEsc s5)).bind _) _ := k2
          refine ⟨G5, s5, S5, ?_⟩
          cases ef : fe s5 with
          | err x s6 => rw [bnd_app, ef] at k2; exact k2.elim
          | stuck => rw [bnd_app, ef] at k2; exact k2.elim
          | ok r s6 =>
            rw [bnd_app, ef] at k2
            intro G6 H6 st6 S6 v rr
            have k2 : Out K cl W G1 s1 σ H1 ((nerr (fEsc r s6)).bind _) _ := k2
            unfold fEsc at k2
            cases ee : esc r s6 with
            | none => rw [ee] at k2; exact k2.elim
            | some p =>
              obtain ⟨r2, s7⟩ := p
              rw [ee] at k2
              obtain ⟨G7, st7, S7, ex7, ar⟩ := esc_ok S6 st6 rr ee
              have st27 := st25.trans st7
              obtain ⟨b1, b2, b3, b4, b5⟩ := fin st27 S7
              cases r2 with
              | raw u => exact k2.elim
              | ob o => exact k2.elim
              | new u => exact k2.elim
              | slot u => exact k2.elim
              | val d =>
                have hacc7 := dps_mono st27.ex _ _ hacc
                refine ⟨accv, b3, ?_, G7, _, acc ++ [d], accv ++ [v], sa_write b1 b4 b5, ⟨b2.ex, fun a o h1 h2 => ?_, b2.own, fun a h1 => ?_, b2.pw⟩, upd_same, dps_app hacc7 (.cons ar .nil), b4, b5, by simp; omega, k2⟩
                · rw [dps_len hacc]
                  omega
                · have ne : a ≠ D := fun z => by subst z; rw [hD] at h1; cases h1
                  rw [upd_ne ne]
                  exact b2.keep a o h1 h2
                · by_cases ne : a = D
                  · subst ne; rw [upd_same]; simp
                  · rw [upd_ne ne]; exact b2.dom a h1
  · have e : i = ds.length := by omega
    subst e
    rw [List.drop_length] at k2
    refine .inl ⟨j2 (Nat.le_refl _), ?_⟩
    have k3 := k2 G2 H2 st2 S2
    have k4 := k3 G2 H2 Stp.refl S2 (.ref D) ⟨D, accv, rfl, hD2, hacc, gD2, Classical.byContradiction fun z => st1.dom D z hD, nD2⟩
    exact k4
abbrev W0 : WX := fun _ _ _ _ => False
theorem d_lc {elt : Expr} {ifs : List Expr} {scope : Scope} {own : List (Str × Nat)} {gg : TG} {bd : Bd} {js : List Nat} {ft : M Bool} {fe : M R} (hc : X.calm = true) (hN : X.N.Nodup) (hi : DI X cl W tg iter fi) (ok : BlkOk X.N X.env.scope scope own) (ho : GOk X.K gg bd js) (hj : ∀ j ∈ js, j ∈ own.map (·.2))
    (hg : ∀ (s : Shared) (H : Hp) (C : Addr) (cl : List (Str × Addr)) (fp : List Addr), PG (X.blk s H scope (compEnvC scope cl C X.env) fp) tg gg) (ht : ∀ (s : Shared) (H : Hp) (C : Addr) (clo : List (Str × Addr)) (fp : List Addr), PTs (X.blk s H scope (compEnvC scope clo C X.env) fp) ifs (tT X.K cl W0 ft))
    (he : ∀ (s : Shared) (H : Hp) (C : Addr) (clo : List (Str × Addr)) (fp : List Addr), DE (X.blk s H scope (compEnvC scope clo C X.env) fp) cl W0 elt fe) (hs : ∀ x, foldedSetIterable iter X.env x = pure x := by intro _; rfl) :
    DE X cl W (.ListComp elt [⟨tg, iter, ifs, 0⟩] scope pos) (fLc fi bd ft fe (own.map (·.2))) := pe_imp (pe_lc hc hN hi ok hg ht he hs) fun σ H Q q => lc_reads ho hj q
theorem s_setLc {i : Nat} {y : Str} {py : Pos} {elt : Expr} {ifs : List Expr} {scope : Scope} {own : List (Str × Nat)} {spos : Pos} {gg : TG} {bd : Bd} {js : List Nat} {ft : M Bool} {fe : M R} (hc : X.calm = true) (hN : X.N.Nodup) (hy : X.N[i]? = some y) (hyl : X.env.scope.names.lookup y = some .local)
    (hsw : swapsWith (.ListComp elt [⟨tg, iter, ifs, 0⟩] scope pos) (some (.Name y py)) spos.line X.env = pure true) (hi : DI X cl W tg iter fi) (ok : BlkOk X.N X.env.scope scope own) (ho : GOk X.K gg bd js) (hj : ∀ j ∈ js, j ∈ own.map (·.2))
    (hg : ∀ (s : Shared) (H : Hp) (C : Addr) (cl : List (Str × Addr)) (fp : List Addr), PG (X.blk s H scope (compEnvC scope cl C X.env) fp) tg gg) (ht : ∀ (s : Shared) (H : Hp) (C : Addr) (clo : List (Str × Addr)) (fp : List Addr), PTs (X.blk s H scope (compEnvC scope clo C X.env) fp) ifs (tT X.K cl W0 ft))
    (he : ∀ (s : Shared) (H : Hp) (C : Addr) (clo : List (Str × Addr)) (fp : List Addr), DE (X.blk s H scope (compEnvC scope clo C X.env) fp) cl W0 elt fe) (hs : ∀ x, foldedSetIterable iter X.env x = pure x := by intro _; rfl) :
    DS X cl W (.Assign [.Name y py] (.ListComp elt [⟨tg, iter, ifs, 0⟩] scope pos) spos) (fSet i (fLc fi bd ft fe (own.map (·.2)))) := ps_imp (ps_setLc hc hN hy hyl hsw hi ok hg ht he hs) fun D σ H q => by
  have q' := set_reads q
  exact lc_reads ho hj q'
def fYes : M Bool := ret true
theorem dts_nil {K : PySem.W.Frag} : PTs X [] (tT K cl W fYes) := ⟨fun pins s σ H Q I ⟨G, st, S, h⟩ => pts_nil.run pins s σ H Q I (h G H Stp.refl S)⟩
theorem dts_one {t : M Bool} (h : DT X cl W c t) : PTs X [c] (tT X.K cl W t) := pts_one h
end
end DL

/-! DL9: built-ins, methods -/
noncomputable section
namespace DL
open PySem L2 PyProof.Rows
open Evl (Ex)
def looks : List R → DSt → Option (List PyData)
  | [], _ => some []
  | r :: rs, s => match look r s, looks rs s with
    | some d, some ds => some (d :: ds)
    | _, _ => none
theorem looks_q {K : PySem.W.Frag} {H0 G H : Hp} {s : DSt} {σ : L2.St} (S : SA K G s σ H) : ∀ {rs : List R} {vs : List V} {ds : List PyData}, RRels K H0 G s σ H vs rs → looks rs s = some ds → Paired (Dq K G H) vs ds
  | [], _, _, .nil, e => by cases e; exact .nil
  | r :: rs, _, ds, .cons h t, e => by
    simp only [looks] at e
    split at e
    · rename_i d es e1 e2
      cases e
      exact .cons (look_q S h e1) (looks_q S t e2)
    · cases e
def CallD (K : PySem.W.Frag) (r : List V → Hp → VK → Prop) (o : List PyData → Option R) : Prop := ∀ (G H : Hp) (vs : List V) (ds : List PyData) (r' : R) (Q : VK), Ex G H → Paired (Dq K G H) vs ds → o ds = some r' → Ans K G H r' Q → r vs H Q
def fCall (o : List PyData → Option R) (fs : M (List R)) : M R := bnd fs fun rs s => match looks rs s with
  | some ds => match o ds with
    | some (.slot _) => .stuck
    | some r => .ok r s
    | none => .stuck
  | none => .stuck
section
variable {X : Cx} {cl : String → Addr} {W : WX} {e a b c tg iter : Expr} {es : List Expr} {f g : M R} {fs : M (List R)} {fi : M (List PyData)} {pos : Pos} {p q : DSt → Flow}
theorem call_reads {K : PySem.W.Frag} {r : List V → Hp → VK → Prop} {o : List PyData → Option R} (h : CallD K r o) {σ : L2.St} {H : Hp} {Q : VK} (q : tD K cl W (fCall o fs) σ H Q) : tCB r (tA K cl W fs) σ H Q := by
  obtain ⟨G, s, S, q⟩ := q
  refine ⟨G, s, S, out_mono (out_bind q) fun rs G1 s1 H1 st1 S1 k vs hv => ?_⟩
  split at k
  · rename_i ds e1
    split at k
    · exact k.elim
    · rename_i r' ns ho
      exact h G1 H1 vs ds r' Q S1.gh (looks_q S1 hv e1) ho (ans_of S1 st1.dom (fun i z => ns i z) k)
    · exact k.elim
  · exact k.elim
theorem d_callB {x : Str} {p : Pos} {id : String} {r : List V → Hp → VK → Prop} {o : List PyData → Option R} (hc : CallR X (.builtin id) r) (h : CallD X.K r o) (hg : Gl X x) (hm : X.mg x = none) (hv : bootBuiltins x = some (.builtin id)) (ha : DA X cl W (e :: es) fs) (hn : x ≠ "__name__" := by decide) (hdb : (x == ("__debug__" : Str)) = false := by decide)
    (he : starEach (e :: es) X.env = (false, eval e X.env) :: starEach es X.env := by rfl) (hpl : (backTo pos (starEach es X.env)).any (·.1) = false := by rfl) : DE X cl W (.Call (.Name x p) (e :: es) [] pos) (fCall o fs) :=
  pe_imp (pe_callB hc hg hm hv ha hn hdb he hpl) fun σ H Q q => call_reads h q
theorem d_callTy {x : Str} {p : Pos} {T : String} {r : List V → Hp → VK → Prop} {o : List PyData → Option R} (hc : CallR X (.type T) r) (h : CallD X.K r o) (hg : Gl X x) (hm : X.mg x = none) (hv : bootBuiltins x = some (.type T)) (ha : DA X cl W (e :: es) fs) (hn : x ≠ "__name__" := by decide) (hdb : (x == ("__debug__" : Str)) = false := by decide)
    (he : starEach (e :: es) X.env = (false, eval e X.env) :: starEach es X.env := by rfl) (hpl : (backTo pos (starEach es X.env)).any (·.1) = false := by rfl) : DE X cl W (.Call (.Name x p) (e :: es) [] pos) (fCall o fs) :=
  pe_imp (pe_callTy hc hg hm hv ha hn hdb he hpl) fun σ H Q q => call_reads h q
theorem CallR.or' {f : Value} {r r' : List V → Hp → VK → Prop} (h : CallR X f r) (h' : CallR X f r') : CallR X f (fun vs H Q => r vs H Q ∨ r' vs H Q) := by
  intro pins s σ H vs us Q I rv q
  rcases q with q | q
  · exact h pins s σ H vs us Q I rv q
  · exact h' pins s σ H vs us Q I rv q
end
/-! the built-ins -/
def lenO : List PyData → Option R
  | [.list ds] => some (.val (.int ds.length))
  | [.tuple ds] => some (.val (.int ds.length))
  | [.str z] => if leS (z.length) then some (.val (.int z.length)) else none
  | _ => none
theorem cd_len {K : PySem.W.Frag} : CallD K (fun xs H Q => (∃ p ys, xs = [.ref p] ∧ (SqL K H p ys ∨ SqT K H p ys) ∧ Q (.int ys.length) H) ∨ ∃ z, xs = [.str z] ∧ z.length ≤ sizeLine ∧ Q (.int z.length) H) lenO := by
  intro G H vs ds r' Q ex hv ho k
  unfold lenO at ho
  split at ho
  · cases ho
    cases hv with
    | cons h t =>
      cases t
      obtain ⟨p, xs, rfl, hp, hx⟩ := dq_lst h
      refine .inl ⟨p, xs, rfl, .inl (.of hp), ?_⟩
      rw [dps_len hx]
      exact k.1 _ (.int _)
  · cases ho
    cases hv with
    | cons h t =>
      cases t
      obtain ⟨p, xs, rfl, hp, hx, _⟩ := dq_tup ex h
      refine .inl ⟨p, xs, rfl, .inr hp, ?_⟩
      rw [dps_len hx]
      exact k.1 _ (.int _)
  · split at ho
    · cases ho
      cases hv with
      | cons h t =>
        cases t
        obtain rfl := dq_str h
        exact .inr ⟨_, rfl, by assumption, k.1 _ (.int _)⟩
    · cases ho
  · cases ho
def listO : List PyData → Option R
  | [.list ds] => some (.new ds)
  | [.tuple ds] => some (.new ds)
  | _ => none
theorem cd_list {K : PySem.W.Frag} : CallD K (fun xs H Q => ∃ p ys, xs = [.ref p] ∧ (SqL K H p ys ∨ SqT K H p ys) ∧ ∀ l, H l = none → Q (.ref l) (upd H l (.lst ys))) listO := by
  intro G H vs ds r' Q ex hv ho k
  unfold listO at ho
  split at ho
  · cases ho
    cases hv with
    | cons h t =>
      cases t
      obtain ⟨p, xs, rfl, hp, hx⟩ := dq_lst h
      exact ⟨p, xs, rfl, .inl (.of hp), fun l hl => k l _ hl hx⟩
  · cases ho
    cases hv with
    | cons h t =>
      cases t
      obtain ⟨p, xs, rfl, hp, hx, _⟩ := dq_tup ex h
      exact ⟨p, xs, rfl, .inr hp, fun l hl => k l _ hl hx⟩
  · cases ho
def tupleO : List PyData → Option R
  | [.list ds] => some (.val (.tuple ds))
  | [.tuple ds] => some (.val (.tuple ds))
  | _ => none
theorem cd_tuple {K : PySem.W.Frag} : CallD K (fun xs H Q => ∃ p ys, xs = [.ref p] ∧ ((SqL K H p ys ∧ ∀ l, H l = none → Q (.ref l) (upd H l (.tup ys))) ∨ (SqT K H p ys ∧ Q (.ref p) H))) tupleO := by
  intro G H vs ds r' Q ex hv ho k
  unfold tupleO at ho
  split at ho
  · cases ho
    cases hv with
    | cons h t =>
      cases t
      obtain ⟨p, xs, rfl, hp, hx⟩ := dq_lst h
      exact ⟨p, xs, rfl, .inl ⟨.of hp, fun l hl => k.2 _ l _ rfl hl hx⟩⟩
  · cases ho
    cases hv with
    | cons h t =>
      cases t
      obtain ⟨p, xs, rfl, hp, hx, h1⟩ := dq_tup ex h
      exact ⟨p, xs, rfl, .inr ⟨hp, k.1 _ h1⟩⟩
  · cases ho
/-- ints, bools of data -/
def intsD : List PyData → Option (List Int)
  | [] => some []
  | .int i :: r => (intsD r).map (i :: ·)
  | _ :: _ => none
def boolsD : List PyData → Option (List Bool)
  | [] => some []
  | .bool i :: r => (boolsD r).map (i :: ·)
  | _ :: _ => none
theorem ints_rp {K : PySem.W.Frag} {G : Hp} : ∀ {ds : List PyData} {vs : List V} {ns : List Int}, RpAll K G vs ds → intsD ds = some ns → vs = ns.map V.int
  | [], _, _, h, e => by cases h; cases e; rfl
  | .int i :: r, _, ns, h, e => by
    cases h with
    | cons h1 h2 =>
      cases h1
      simp only [intsD] at e
      cases q : intsD r with
      | none => rw [q] at e; cases e
      | some ms => rw [q] at e; cases e; rw [ints_rp h2 q]; rfl
  | .none :: _, _, _, _, e | .bool _ :: _, _, _, _, e | .str _ :: _, _, _, _, e | .list _ :: _, _, _, _, e | .tuple _ :: _, _, _, _, e | .dict _ :: _, _, _, _, e => by cases e
theorem bools_rp {K : PySem.W.Frag} {G : Hp} : ∀ {ds : List PyData} {vs : List V} {ns : List Bool}, RpAll K G vs ds → boolsD ds = some ns → vs = ns.map V.bl
  | [], _, _, h, e => by cases h; cases e; rfl
  | .bool i :: r, _, ns, h, e => by
    cases h with
    | cons h1 h2 =>
      cases h1
      simp only [boolsD] at e
      cases q : boolsD r with
      | none => rw [q] at e; cases e
      | some ms => rw [q] at e; cases e; rw [bools_rp h2 q]; rfl
  | .none :: _, _, _, _, e | .int _ :: _, _, _, _, e | .str _ :: _, _, _, _, e | .list _ :: _, _, _, _, e | .tuple _ :: _, _, _, _, e | .dict _ :: _, _, _, _, e => by cases e
theorem rp_ints {K : PySem.W.Frag} {G : Hp} : ∀ ns : List Int, RpAll K G (ns.map V.int) (ns.map PyData.int)
  | [] => .nil
  | n :: ns => .cons (.int n) (rp_ints ns)
@[simp] theorem intsD_map : ∀ ns : List Int, intsD (ns.map PyData.int) = some ns
  | [] => rfl
  | n :: ns => by simp [intsD, intsD_map ns]
@[simp] theorem boolsD_map : ∀ ns : List Bool, boolsD (ns.map PyData.bool) = some ns
  | [] => rfl
  | n :: ns => by simp [boolsD, boolsD_map ns]
def allO : List PyData → Option R
  | [.list ds] => (boolsD ds).map fun bs => .val (.bool (bs.all id))
  | _ => none
def anyO : List PyData → Option R
  | [.list ds] => (boolsD ds).map fun bs => .val (.bool (bs.any id))
  | _ => none
def sumO : List PyData → Option R
  | [.list ds] => (intsD ds).map fun bs => .val (.int bs.sum)
  | _ => none
theorem cd_all {K : PySem.W.Frag} : CallD K (rAll K) allO := by
  intro G H vs ds r' Q ex hv ho k
  unfold allO at ho
  split at ho
  · cases hv with
    | cons h t =>
      cases t
      obtain ⟨p, xs, rfl, hp, hx⟩ := dq_lst h
      rename_i es
      cases q : boolsD es with
      | none => rw [q] at ho; cases ho
      | some bs => rw [q] at ho; cases ho; exact ⟨p, bs, rfl, .of (by rw [← bools_rp hx q]; exact hp), k.1 _ (.bl _)⟩
  · cases ho
theorem cd_any {K : PySem.W.Frag} : CallD K (rAny K) anyO := by
  intro G H vs ds r' Q ex hv ho k
  unfold anyO at ho
  split at ho
  · cases hv with
    | cons h t =>
      cases t
      obtain ⟨p, xs, rfl, hp, hx⟩ := dq_lst h
      rename_i es
      cases q : boolsD es with
      | none => rw [q] at ho; cases ho
      | some bs => rw [q] at ho; cases ho; exact ⟨p, bs, rfl, .of (by rw [← bools_rp hx q]; exact hp), k.1 _ (.bl _)⟩
  · cases ho
theorem cd_sum {K : PySem.W.Frag} : CallD K (rSum K) sumO := by
  intro G H vs ds r' Q ex hv ho k
  unfold sumO at ho
  split at ho
  · cases hv with
    | cons h t =>
      cases t
      obtain ⟨p, xs, rfl, hp, hx⟩ := dq_lst h
      rename_i es
      cases q : intsD es with
      | none => rw [q] at ho; cases ho
      | some bs => rw [q] at ho; cases ho; exact ⟨p, bs, rfl, .of (by rw [← ints_rp hx q]; exact hp), k.1 _ (.int _)⟩
  · cases ho
/-- the greatest, the least of ints -/
def maxI : List Int → Int
  | [] => 0
  | n :: ns => ns.foldl max n
def minI : List Int → Int
  | [] => 0
  | n :: ns => ns.foldl min n
theorem foldl_max_ge : ∀ (ns : List Int) (n : Int), n ≤ ns.foldl max n ∧ (∀ y ∈ ns, y ≤ ns.foldl max n) ∧ (ns.foldl max n = n ∨ ns.foldl max n ∈ ns)
  | [], n => by simp
  | m :: ns, n => by
    obtain ⟨h1, h2, h3⟩ := foldl_max_ge ns (max n m)
    simp only [List.foldl_cons, List.mem_cons]
    refine ⟨by omega, fun y hy => ?_, ?_⟩
    · rcases hy with rfl | hy
      · omega
      · exact h2 y hy
    · rcases h3 with h3 | h3
      · rcases Int.le_total n m with q | q
        · right; left; rw [h3]; omega
        · left; rw [h3]; omega
      · exact .inr (.inr h3)
theorem foldl_min_le : ∀ (ns : List Int) (n : Int), ns.foldl min n ≤ n ∧ (∀ y ∈ ns, ns.foldl min n ≤ y) ∧ (ns.foldl min n = n ∨ ns.foldl min n ∈ ns)
  | [], n => by simp
  | m :: ns, n => by
    obtain ⟨h1, h2, h3⟩ := foldl_min_le ns (min n m)
    simp only [List.foldl_cons, List.mem_cons]
    refine ⟨by omega, fun y hy => ?_, ?_⟩
    · rcases hy with rfl | hy
      · omega
      · exact h2 y hy
    · rcases h3 with h3 | h3
      · rcases Int.le_total n m with q | q
        · left; rw [h3]; omega
        · right; left; rw [h3]; omega
      · exact .inr (.inr h3)
theorem maxI_mem {ns : List Int} (h : ns ≠ []) : maxI ns ∈ ns := by
  cases ns with
  | nil => exact (h rfl).elim
  | cons n ns =>
    show ns.foldl max n ∈ n :: ns
    rcases (foldl_max_ge ns n).2.2 with q | q
    · rw [q]; exact List.mem_cons_self
    · exact List.mem_cons_of_mem _ q
theorem maxI_ge {ns : List Int} {y : Int} (h : y ∈ ns) : y ≤ maxI ns := by
  cases ns with
  | nil => cases h
  | cons n ns =>
    unfold maxI
    rcases List.mem_cons.mp h with rfl | h
    · exact (foldl_max_ge ns y).1
    · exact (foldl_max_ge ns n).2.1 y h
theorem minI_mem {ns : List Int} (h : ns ≠ []) : minI ns ∈ ns := by
  cases ns with
  | nil => exact (h rfl).elim
  | cons n ns =>
    show ns.foldl min n ∈ n :: ns
    rcases (foldl_min_le ns n).2.2 with q | q
    · rw [q]; exact List.mem_cons_self
    · exact List.mem_cons_of_mem _ q
theorem minI_le {ns : List Int} {y : Int} (h : y ∈ ns) : minI ns ≤ y := by
  cases ns with
  | nil => cases h
  | cons n ns =>
    unfold minI
    rcases List.mem_cons.mp h with rfl | h
    · exact (foldl_min_le ns y).1
    · exact (foldl_min_le ns n).2.1 y h
def maxO : List PyData → Option R
  | [.list ds] => match intsD ds with
    | some (n :: ns) => some (.val (.int (maxI (n :: ns))))
    | _ => none
  | [.int i, .int j] => some (.val (.int (if j > i then j else i)))
  | _ => none
def minO : List PyData → Option R
  | [.list ds] => match intsD ds with
    | some (n :: ns) => some (.val (.int (minI (n :: ns))))
    | _ => none
  | [.int i, .int j] => some (.val (.int (if j < i then j else i)))
  | _ => none
theorem cd_max {K : PySem.W.Frag} : CallD K (fun vs H Q => rMax K vs H Q ∨ ∃ i j, vs = [.int i, .int j] ∧ Q (.int (if j > i then j else i)) H) maxO := by
  intro G H vs ds r' Q ex hv ho k
  unfold maxO at ho
  split at ho
  · cases hv with
    | cons h t =>
      cases t
      obtain ⟨p, xs, rfl, hp, hx⟩ := dq_lst h
      split at ho
      · rename_i n ns q
        cases ho
        refine .inl ⟨p, n :: ns, rfl, .of (by rw [← ints_rp hx q]; exact hp), by simp, fun m hm hle => ?_⟩
        have e : m = maxI (n :: ns) := Int.le_antisymm (maxI_ge hm) (hle _ (maxI_mem (by simp)))
        rw [e]
        exact k.1 _ (.int _)
      · cases ho
  · cases ho
    cases hv with
    | cons h t =>
      cases t with
      | cons h2 t =>
        cases t
        obtain rfl := dq_int h
        obtain rfl := dq_int h2
        exact .inr ⟨_, _, rfl, k.1 _ (.int _)⟩
  · cases ho
theorem cd_min {K : PySem.W.Frag} : CallD K (fun vs H Q => rMin K vs H Q ∨ ∃ i j, vs = [.int i, .int j] ∧ Q (.int (if j < i then j else i)) H) minO := by
  intro G H vs ds r' Q ex hv ho k
  unfold minO at ho
  split at ho
  · cases hv with
    | cons h t =>
      cases t
      obtain ⟨p, xs, rfl, hp, hx⟩ := dq_lst h
      split at ho
      · rename_i n ns q
        cases ho
        refine .inl ⟨p, n :: ns, rfl, .of (by rw [← ints_rp hx q]; exact hp), by simp, fun m hm hle => ?_⟩
        have e : m = minI (n :: ns) := Int.le_antisymm (hle _ (minI_mem (by simp))) (minI_le hm)
        rw [e]
        exact k.1 _ (.int _)
      · cases ho
  · cases ho
    cases hv with
    | cons h t =>
      cases t with
      | cons h2 t =>
        cases t
        obtain rfl := dq_int h
        obtain rfl := dq_int h2
        exact .inr ⟨_, _, rfl, k.1 _ (.int _)⟩
  · cases ho
def absO : List PyData → Option R
  | [.int i] => some (.val (.int (if i < 0 then -i else i)))
  | _ => none
theorem cd_abs {K : PySem.W.Frag} : CallD K (fun xs H Q => ∃ i, xs = [.int i] ∧ Q (.int (if i < 0 then -i else i)) H) absO := by
  intro G H vs ds r' Q ex hv ho k
  unfold absO at ho
  split at ho
  · cases ho
    cases hv with
    | cons h t =>
      cases t
      obtain rfl := dq_int h
      exact ⟨_, rfl, k.1 _ (.int _)⟩
  · cases ho
def intO : List PyData → Option R
  | [.int i] => some (.val (.int i))
  | [.bool b] => some (.val (.int (if b then 1 else 0)))
  | _ => none
theorem cd_int {K : PySem.W.Frag} : CallD K (fun xs H Q => (∃ i, xs = [.int i] ∧ Q (.int i) H) ∨ ∃ k, xs = [.bl k] ∧ Q (.int (if k then 1 else 0)) H) intO := by
  intro G H vs ds r' Q ex hv ho k
  unfold intO at ho
  split at ho
  · cases ho
    cases hv with
    | cons h t =>
      cases t
      obtain rfl := dq_int h
      exact .inl ⟨_, rfl, k.1 _ (.int _)⟩
  · cases ho
    cases hv with
    | cons h t =>
      cases t
      obtain rfl := dq_bl h
      exact .inr ⟨_, rfl, k.1 _ (.int _)⟩
  · cases ho
/-- sorted of ints -/
def sortI (ns : List Int) : List Int := ns.mergeSort fun a b => decide (a ≤ b)
theorem sortI_perm (ns : List Int) : (sortI ns).Perm ns := List.mergeSort_perm _ _
theorem sortI_le (ns : List Int) : (sortI ns).Pairwise (· ≤ ·) := by
  have h := List.pairwise_mergeSort (le := fun a b : Int => decide (a ≤ b)) (fun a b c h1 h2 => by simp at *; omega) (fun a b => by simp; omega) ns
  exact h.imp fun h => by simpa using h
theorem perm_sorted_eq : ∀ {l m : List Int}, l.Perm m → l.Pairwise (· ≤ ·) → m.Pairwise (· ≤ ·) → l = m
  | [], m, h, _, _ => by have := h.length_eq; cases m with | nil => rfl | cons => simp at this
  | a :: l, [], h, _, _ => by have := h.length_eq; simp at this
  | a :: l, b :: m, h, h1, h2 => by
    have ha := (List.pairwise_cons.mp h1)
    have hb := (List.pairwise_cons.mp h2)
    have e1 : a ∈ b :: m := h.mem_iff.mp List.mem_cons_self
    have e2 : b ∈ a :: l := h.mem_iff.mpr List.mem_cons_self
    have e : a = b := by
      rcases List.mem_cons.mp e1 with e | e
      · exact e
      · rcases List.mem_cons.mp e2 with f | f
        · exact f.symm
        · have := ha.1 b f; have := hb.1 a e; omega
    subst e
    rw [perm_sorted_eq (List.Perm.cons_inv h) ha.2 hb.2]
theorem sortI_eq {ns ms : List Int} (h : ms.Perm ns) (h2 : ms.Pairwise (· ≤ ·)) : ms = sortI ns := perm_sorted_eq (h.trans (sortI_perm ns).symm) h2 (sortI_le ns)
/-- data of one kind in order -/
def sortDD (ds : List PyData) : List PyData := ds.mergeSort (PySem.W.sortLe (PyProof.Rows.listOrd PyProof.Rows.itemOrd) false PySem.W.keyToks)
def canSort (ds : List PyData) : Prop := PySem.W.AllAlike ds ∧ PySem.W.Sortable ds ∧ ∀ d ∈ ds, d.depth ≤ 50
instance (ds : List PyData) : Decidable (canSort ds) := Classical.propDecidable _
def sortedO : List PyData → Option R
  | [.list ds] => match intsD ds with
    | some ns => some (.new ((sortI ns).map .int))
    | none => if canSort ds then some (.new (sortDD ds)) else none
  | _ => none
def rSortedD (K : PySem.W.Frag) : List V → Hp → VK → Prop := fun vs H Q => ∃ (a : Addr) (xs : List V) (ds : List PyData), vs = [.ref a] ∧ SqL K H a xs ∧ DpAll K H xs ds ∧ canSort ds ∧
  ∀ zs : List (V × PyData), zs.Perm (xs.zip ds) → zs.map (·.2) = sortDD ds → ∀ p, H p = none → Q (.ref p) (upd H p (.lst (zs.map (·.1))))
theorem each_of {α β : Type} {R : α → β → Prop} : ∀ {as : List α} {bs : List β}, as.length = bs.length → (∀ (i : Nat) (a : α) (b : β), as[i]? = some a → bs[i]? = some b → R a b) → PySem.W.EachIs R as bs
  | [], [], _, _ => .nil
  | [], _ :: _, h, _ => by simp at h
  | _ :: _, [], h, _ => by simp at h
  | a :: as, b :: bs, h, f => .cons (f 0 a b rfl rfl) (each_of (by simpa using h) fun i a b h1 h2 => f (i + 1) a b (by simpa using h1) (by simpa using h2))
theorem each_get {α β : Type} {R : α → β → Prop} {as : List α} {bs : List β} (h : PySem.W.EachIs R as bs) : ∀ (i : Nat) (a : α), as[i]? = some a → ∃ b, bs[i]? = some b ∧ R a b := by
  induction h with
  | nil => intro i a e; simp at e
  | cons r _ ih =>
    intro i a e
    cases i with
    | zero => simp at e; subst e; exact ⟨_, rfl, r⟩
    | succ i => simpa using ih i a (by simpa using e)
theorem dpsAll_get {K : PySem.W.Frag} {H : Hp} : ∀ {ds : List PyData} {vs : List V} {i : Nat} {v : V}, DpAll K H vs ds → vs[i]? = some v → ∃ d, ds[i]? = some d ∧ Dp K H v d
  | [], _, i, v, h, e => by cases h; simp at e
  | d :: ds, _, 0, v, h, e => by
    cases h with
    | cons h1 h2 => simp at e; subst e; exact ⟨d, rfl, h1⟩
  | d :: ds, _, i + 1, v, h, e => by
    cases h with
    | cons h1 h2 => simpa using dpsAll_get (i := i) h2 (by simpa using e)
theorem dpsAll_len {K : PySem.W.Frag} {H : Hp} : ∀ {ds : List PyData} {vs : List V}, DpAll K H vs ds → vs.length = ds.length
  | [], _, h => by cases h; rfl
  | d :: ds, _, h => by
    cases h with
    | cons h1 h2 => simp [dpsAll_len h2]
theorem vals_paired : ∀ {zs : List (V × PyData)} {us : List Value}, PySem.W.EachIs (fun (u : Value) (z : V × PyData) => RelV z.1 u) us zs → Vals (zs.map (·.1)) us
  | _, _, .nil => .nil
  | _, _, .cons r t => .cons r (vals_paired t)
section
variable {X : Cx}
theorem cr_sortedD (hu : X.A.units + 64 < cLine) : CallR X (.builtin "sorted") (rSortedD X.K) := by
  intro pins s σ H vs us Q I rv h
  obtain ⟨a, xs, ds, rfl, hs, hd, ⟨c1, c2, c3⟩, q⟩ := h
  obtain ⟨its, r, pl, hz⟩ := I.list hs
  rw [Vals.ref1 rv]
  have lx := dpsAll_len hd
  have li : its.length = xs.length := r.length.symm
  obtain ⟨zs, ezs⟩ : ∃ zs, zs = xs.zip ds := ⟨_, rfl⟩
  have lz : zs.length = its.length := by rw [ezs, List.length_zip]; omega
  have zget : ∀ (i : Nat) (z : V × PyData), zs[i]? = some z → xs[i]? = some z.1 ∧ ds[i]? = some z.2 := fun i z e => by
    rw [ezs, List.getElem?_zip_eq_some] at e
    exact e
  have both : ∀ (i : Nat) (u : Value) (z : V × PyData), its[i]? = some u → zs[i]? = some z → RelV z.1 u ∧ z.2 ∈ ds ∧ ∀ h', (∀ b o, s.heap.get? b = some o → h'.get? b = some o) → ∃ as, Reads h' u z.2 as := by
    intro i u z e1 e2
    obtain ⟨g1, g2⟩ := zget i z e2
    obtain ⟨u', e3, rr⟩ := r.get g1
    rw [e1] at e3
    cases e3
    refine ⟨rr, List.mem_of_getElem? g2, fun h' hk => ?_⟩
    obtain ⟨d, e4, dp⟩ := dpsAll_get hd g1
    rw [g2] at e4
    cases e4
    have J : Inv X pins σ H { s with heap := h', toks := s.toks } := I.kept hk
    exact Dp.reads J z.2 z.1 u dp rr
  have hsz : its.length ≤ sizeLine := by rw [li]; exact hz
  have old : ∀ b o, s.heap.get? b = some o → (PySem.W.sortingHeap (PySem.W.copyHeap s.heap its) (s.heap.objs.size + 1) its).get? b = some o := fun b o e => PySem.W.sorting_copy_old e
  have eD : PySem.W.EachIs (fun v d => ∃ as, Reads (PySem.W.sortingHeap (PySem.W.copyHeap s.heap its) (s.heap.objs.size + 1) its) v d as) its ds := each_of (by omega) fun i u d e1 e2 => by
    obtain ⟨x, e3⟩ : ∃ x, xs[i]? = some x := by
      have := (List.getElem?_eq_some_iff.mp e1).1
      exact ⟨_, List.getElem?_eq_getElem (by omega : i < xs.length)⟩
    have ez : zs[i]? = some (x, d) := by rw [ezs, List.getElem?_zip_eq_some]; exact ⟨e3, e2⟩
    exact (both i u (x, d) e1 ez).2.2 _ old
  have un : X.A.in1.in1.units = X.A.units + 2 := rfl
  have S := PySem.W.SortsAt.data (prog := X.prog) (w := X.w) (A := X.A.in1.in1) (s := { s with heap := PySem.W.sortingHeap (PySem.W.copyHeap s.heap its) (s.heap.objs.size + 1) its }) eD c1 c2 fun d hd => by
    have := c3 d hd
    rw [un]
    omega
  refine PySem.W.sorted_vals pl.isList S hsz ?_
  have e1 : PySem.W.EachIs (fun (u : Value) (z : V × PyData) => RelV z.1 u) its zs := each_of lz.symm fun i u z g1 g2 => (both i u z g1 g2).1
  have e2 : PySem.W.EachIs (fun v (z : V × PyData) => (PySem.W.dataKind (PySem.W.sortingHeap (PySem.W.copyHeap s.heap its) (s.heap.objs.size + 1) its) ds).keyOf v = some (PySem.W.keyToks z.2)) its zs := each_of lz.symm fun i u z g1 g2 => by
    obtain ⟨_, md, rd⟩ := both i u z g1 g2
    obtain ⟨as, rd⟩ := rd _ old
    exact PySem.W.dataKind_some c1 md rd
  have e3 := PySem.W.sortVals_each (κ := PySem.W.dataKind (PySem.W.sortingHeap (PySem.W.copyHeap s.heap its) (s.heap.objs.size + 1) its) ds) (rev := false) (fun z : V × PyData => PySem.W.keyToks z.2) e1 e2
  obtain ⟨ys, ey⟩ : ∃ ys, ys = zs.mergeSort (PySem.W.sortLe (PyProof.Rows.listOrd PyProof.Rows.itemOrd) false fun z : V × PyData => PySem.W.keyToks z.2) := ⟨_, rfl⟩
  have py : ys.Perm zs := by rw [ey]; exact List.mergeSort_perm _ _
  have my : ys.map (·.2) = sortDD ds := by
    have ed : zs.map (·.2) = ds := by rw [ezs]; exact List.map_snd_zip (by omega)
    rw [ey, ← ed]
    exact PySem.W.sort_maps (fun z : V × PyData => z.2) fun _ _ _ _ => rfl
  obtain ⟨out, eo⟩ : ∃ out, out = PySem.W.sortVals (PySem.W.dataKind (PySem.W.sortingHeap (PySem.W.copyHeap s.heap its) (s.heap.objs.size + 1) its) ds) false its its := ⟨_, rfl⟩
  rw [← eo] at e3 ⊢
  have e3 : PySem.W.EachIs (fun (u : Value) (z : V × PyData) => RelV z.1 u) out ys := by rw [ey]; exact e3
  have vo := vals_paired e3
  obtain ⟨ep, he'⟩ := PyProof.Rows.sortedAll_at s.heap its out.toArray
  have hlen : (ys.map (·.1)).length ≤ sizeLine := by rw [List.length_map, py.length_eq]; omega
  exact ⟨.ref _, upd H (s.heap.objs.size + 1) (.lst (ys.map (·.1))), I.laid (t' := s.toks) (fun _ _ => PyProof.Rows.sortedAll_old) (Nat.le_succ _) ⟨hlen, out, ep, vo, he'⟩, rfl, q ys (by rw [← ezs]; exact py) my _ (I.hok.fresh (Nat.le_succ _))⟩
end
theorem rps_zip {K : PySem.W.Frag} {G : Hp} : ∀ {zs : List (V × PyData)}, (∀ z ∈ zs, Rp K G z.1 z.2) → RpAll K G (zs.map (·.1)) (zs.map (·.2))
  | [], _ => .nil
  | z :: zs, h => .cons (h z List.mem_cons_self) (rps_zip fun z hz => h z (List.mem_cons_of_mem _ hz))
theorem cd_sorted {K : PySem.W.Frag} : CallD K (fun vs H Q => rSortedI K vs H Q ∨ rSortedD K vs H Q) sortedO := by
  intro G H vs ds r' Q ex hv ho k
  unfold sortedO at ho
  split at ho
  · cases hv with
    | cons h t =>
      cases t
      obtain ⟨p, xs, rfl, hp, hx⟩ := dq_lst h
      rename_i es
      cases q : intsD es with
      | none =>
        rw [q] at ho
        dsimp only at ho
        split at ho
        · rename_i hc
          cases ho
          refine .inr ⟨p, xs, es, rfl, .of hp, rps_dps _ _ (dps_mono ex _ _ hx), hc, fun zs pz mz l hl => ?_⟩
          have rz : RpAll K G (zs.map (·.1)) (zs.map (·.2)) := rps_zip fun z hz => by
            have hz := pz.mem_iff.mp hz
            obtain ⟨i, hi, e⟩ := List.mem_iff_getElem.mp hz
            have e : (xs.zip es)[i]? = some z := by rw [List.getElem?_eq_getElem hi, e]
            rw [List.getElem?_zip_eq_some] at e
            obtain ⟨d, e2, rr⟩ := dps_get hx e.1
            rw [e.2] at e2
            cases e2
            exact rr
          rw [mz] at rz
          exact k l _ hl rz
        · cases ho
      | some ns =>
        rw [q] at ho
        cases ho
        refine .inl ⟨p, ns, rfl, .of (by rw [← ints_rp hx q]; exact hp), fun ms l h1 h2 hl => ?_⟩
        rw [sortI_eq h1 h2]
        exact k l _ hl (rp_ints _)
  · cases ho
end DL

/-! DLg: promises of defs that are called where nothing is being written out (A.guards = some []) -/
noncomputable section
namespace DL
open PySem L2 PySem.Spec PyProof.Rows
open Evl (Ex)
structure RoomG (k : Nat) (A : Around) : Prop where
  room : Room k A
  quiet : A.guards = some []
theorem RoomG.mono {j k : Nat} {A : Around} (r : RoomG k A) (h : j ≤ k) : RoomG j A := ⟨r.room.mono h, r.quiet⟩
theorem RoomG.units {k : Nat} {A : Around} (r : RoomG k A) : A.units + 64 < cLine := r.room.units
theorem RoomG.deeper {k : Nat} {A : Around} (r : RoomG (k + 1) A) (env : Env) : RoomG k (A.deeper env) := ⟨r.room.deeper env, r.quiet⟩
/-- a def's promise there -/
structure FnG (P : Program) (w : World) (K : PySem.W.Frag) (mg : Str → Option Value) (base : Heap) (CX : CXT) (k : Nat) (f : Addr) (fd : FuncData) (ps : List Str) (sp : Sp) : Prop where
  many : ∀ vs H Q E, sp vs H Q E → vs.length = ps.length
  goes : ∀ (A : Around) (outer : List Env) (st : Shared) (H : Hp) (args : Args) (us : List Value) (vs : List V) (Q : VK) (E : XK), RoomG k A → Env0 P w K mg base A outer st H → BindsTo st fd args (ps.zip us) → Vals vs us → sp vs H Q E →
    codeAny (model P w) A (.call (.ref f) args) (CR CX outer P w H st Q E) st
section
variable {X : Cx} {CX : CXT} {k : Nat} {f : Addr} {fd : FuncData} {ps : List Str} {sp : Sp} {E : L2.St → XK} {x : Str} {p pos : Pos} {e : Expr} {es : List Expr} {t : TA}
theorem run_G {pins : List (Addr × Obj)} {σ : L2.St} {H : Hp} {st : Shared} {Q : VK} {us : List Value} {vs : List V} (F : FnG X.prog X.w X.K X.mg X.base CX k f fd ps sp) (hr : RoomG k X.A) (hb : Binds X.K fd ps []) (hx : PassesAt CX X σ (E σ))
    (I : Inv X pins σ H st) (r : Vals vs us) (h : sp vs H Q (E σ)) : wpAny (model X.prog X.w) X.A (call (.ref f) us) (EP X pins σ Q) X.xe st := by
  have hl : us.length = ps.length := r.length.symm.trans (F.many _ _ _ _ h)
  have hbind := hb st us I.kIn (by simpa using hl)
  rw [List.append_nil] at hbind
  refine wpAny_call (codeAny_mono (F.goes X.A X.stack st H ⟨us, []⟩ us vs Q (E σ) hr I.env0 hbind r h) ?_)
  intro res st' hq
  match res, hq with
  | .error z, hq => exact hx pins H st z st' I hq
  | .ok (.ret u), hq => exact I.after hq
  | .ok .next, hq => exact hq.elim
  | .ok .brk, hq => exact hq.elim
  | .ok .cont, hq => exact hq.elim
theorem pe_callG (F : FnG X.prog X.w X.K X.mg X.base CX k f fd ps sp) (hr : RoomG k X.A) (hg : Gl X x) (hm : X.mg x = some (.ref f)) (hk : PySem.W.keepIn X.K (.ref f) = true) (hb : Binds X.K fd ps []) (hx : ∀ σ, PassesAt CX X σ (E σ))
    (ha : PA X (e :: es) t) (hdb : (x == ("__debug__" : Str)) = false := by decide) (he : starEach (e :: es) X.env = (false, eval e X.env) :: starEach es X.env := by rfl) (hpl : (backTo pos (starEach es X.env)).any (·.1) = false := by rfl) :
    PE X (.Call (.Name x p) (e :: es) [] pos) (tCallS sp E t) :=
  ⟨fun pins st σ H Q I h => wpAny_Call_Name_kw (ld_glob I hg hm (PySem.W.callWith_K (h₀ := X.base) I.ok.mod.kin hk (thn (ha.run pos pins st σ H _ I h) fun _ _ ⟨_, _, I1, r, q⟩ => ⟨I1.kIn, run_G F hr hb (hx σ) I1 r q⟩) he hpl) hdb)⟩
end
section
variable {P : Program} {w : World} {K : PySem.W.Frag} {mg : Str → Option Value} {base : Heap}
/-- a def by its body -/
theorem okG {x qual : Str} {d : Stmt} {f : Addr} {fd : FuncData} {N ps : List Str} {k : Nat} {sp : Sp} (F : Fun K x qual d f fd) (S : FnScope N ps (defScope d)) (many : ∀ vs H Q E, sp vs H Q E → vs.length = ps.length)
    (hbody : ∀ (cdv : Value) (A : Around) (outer : List Env) (st : Shared) (H : Hp) (vs : List V) (Q : VK) (E : XK), RoomG k (A.deeper (envOfC qual (defScope d) st.heap.objs.size f cdv)) → sp vs H Q E →
      ∃ t, PSs (cxOf (L2.CX P w) P w K mg base N qual (defScope d) f cdv A outer st H E) (defBody d) t ∧ t { nx := fun _ H' => Q .non H', rt := Q } (start N vs) H) : FnG P w K mg base (L2.CX P w) (k + 1) f fd ps sp := by
  obtain ⟨oc, od, kV, doc, pm, an, cdv, ct, osl, rfl, lk, hcd⟩ := F.ex
  refine ⟨many, ?_⟩
  intro A outer st H args us vs Q E hr e0 hb r hsp
  have up : ∀ b o, base.get? b = some o → st.heap.get? b = some o := fun b o z => (e0.bs b o z).1
  have KX : K.In st.heap := e0.mod.kin.keeps up
  refine codeAny_call_function hr.room.depth (KX _ _ lk) rfl S.co S.gen rfl (PySem.W.codeRec_of KX hcd) (hb _ _ _ _ (wpAny_newFunctionEnv_cells S.kind (fun y hy => ?_) fun env he st1 z => ?_))
  · rcases S.par y.1 (List.of_mem_zip (a := y.1) (b := y.2) hy).1 with q | q
    · exact .inl q
    · exact .inr ⟨q, PySem.W.cellsFrom_some _ _ _ (.inl q)⟩
  · subst he
    obtain ⟨t, ht, hq⟩ := hbody cdv A outer st H vs Q E (hr.deeper _) hsp
    have I : Inv (cxOf (L2.CX P w) P w K mg base N qual (defScope d) f cdv A outer st H E) [] (start N vs) H st1 := inv_start S hr.room.hd e0 (many _ _ _ _ hsp) r z
    refine ⟨(e0.mod.nolimit.keeps up).keeps z.toInCall.keep, codeAny_func (wpAny_mono (ht.run [] st1 (start N vs) H _ I hq) ?_ fun _ _ hs => hs)⟩
    intro fl st' hs
    match fl, hs with
    | .ret u, ⟨v, _, H', J, rv, q⟩ => exact ⟨v, H', J.os, J.bare, J.base, J.hok, rv, q⟩
    | .next, ⟨_, H', J, q⟩ => exact ⟨V.non, H', J.os, J.bare, J.base, J.hok, rfl, q⟩
    | .brk, ⟨_, _, _, q⟩ => exact q.elim
    | .cont, ⟨_, _, _, q⟩ => exact q.elim
end
/-! ### the end: the law is called where nothing is being written out -/
theorem quiet_caller {k : Nat} (h : Room k callerA) : RoomG k callerA := ⟨h, rfl⟩
section
variable {P : Program} {w : World} {K : PySem.W.Frag} {mg mb : Str → Option Value} {k : Nat} {fa a : Addr} {fd : FuncData} {x : Str} {sp : Sp} {s1 : Shared} {us : List Value} {ns : List Int}
def LawEnd (s1 : Shared) (r : Result) (s2 : Shared) : Prop := r = .ok (.ret (.bool true)) ∧ OldK s1.heap s2.heap ∧ s2.os = s1.os ∧ AllBare s2.gens
theorem law_from {H : Hp} (KX : K.In s1.heap) (G1 : s1.heap.Ns mainGlobals mg) (G2 : s1.heap.Ns builtinsNs mb) (G3 : ∀ x : Str, x ≠ "__name__" → mb x = bootBuiltins x) (G4 : s1.heap.NoLimit) (G5 : s1.gens = #[])
    (scr : s1.heap.get? a = some { cls := .type "list", data := .seq us.toArray }) (hr : Room k callerA) (F : ∀ base : Heap, K.In base → base.Ns mainGlobals mg → FnG P w K mg base (L2.CX P w) k fa fd [x] sp)
    (bi : ∀ (st : Shared) (u : Value), BindsTo st fd ⟨[u], []⟩ [(x, u)]) (on : Only H) (pr : sp [.ref a] H (fun v _ => v = .bl true) fun _ _ _ => False) (hok : HOk P w H s1.heap) (one : ∀ b, H b ≠ none → b = a) (out : H a ≠ none → K.lookup a = none) :
    codeAny (model P w) callerA (.call (.ref fa) ⟨[.ref a], []⟩) (LawEnd s1) s1 := by
  have free : ∀ b, b ≠ a → H b = none := fun b nb => Classical.byContradiction fun z => nb (one b z)
  have stays : ∀ (b : Addr) (m : Str → Option Value), s1.heap.Ns b m → (hidT s1.heap H).Ns b m := by
    rintro b m ⟨o, es, ep, e, d, r⟩
    refine ⟨o, es, ep, hidT_get e (free b ?_), d, r⟩
    rintro rfl
    rw [scr] at e
    cases e
    exact absurd d (by intro z; cases z)
  have K1 : K.In (hidT s1.heap H) := fun b o e => hidT_get (KX b o e) (Classical.byContradiction fun z => by
    have := one b z
    subst this
    rw [out z] at e
    cases e)
  obtain ⟨mc, l1, l2⟩ := G4
  have e0 : Env0 P w K mg (hidT s1.heap H) callerA [] s1 H := ⟨rfl, ⟨K1, stays _ _ G1, ⟨mb, stays _ _ G2, G3⟩, ⟨mc, stays _ _ l1, l2⟩⟩, fun _ _ e => of_hidT e, Nat.le_of_eq (hidT_size _ _), trivial, fun _ hb => (by cases hb), hok, .of_eq G5⟩
  refine codeAny_mono ((F _ K1 (stays _ _ G1)).goes callerA [] s1 H ⟨[.ref a], []⟩ [.ref a] [.ref a] _ _ (quiet_caller hr) e0 (bi s1 (.ref a)) (.cons rfl .nil) pr) ?_
  intro r s2 h
  match r, h with
  | .error _, h =>
    obtain ⟨_, _, _, _, _, _, _, _, _, _, _, _, z⟩ := h
    exact z.elim
  | .ok .next, h => exact h.elim
  | .ok .brk, h => exact h.elim
  | .ok .cont, h => exact h.elim
  | .ok (.ret u), ⟨v, H2, os, bare, un, hok2, rv, q⟩ =>
    have q : v = .bl true := q
    subst q
    have rv : u = Value.bool true := rv
    subst rv
    refine ⟨rfl, OldK.of_keep fun b o e => ?_, os, bare⟩
    rcases on b with z | ⟨ob, xs, z⟩
    · exact un.keep b o e z (fun y => by cases y) (fun y => by cases y)
    · have g1 := (hok b _ z).1
      rw [e] at g1
      cases g1
      exact (hok2 b _ (un.frzs b _ _ z)).1
theorem law_goes (KX : K.In s1.heap) (G1 : s1.heap.Ns mainGlobals mg) (G2 : s1.heap.Ns builtinsNs mb) (G3 : ∀ x : Str, x ≠ "__name__" → mb x = bootBuiltins x) (G4 : s1.heap.NoLimit) (G5 : s1.gens = #[])
    (scr : s1.heap.get? a = some { cls := .type "list", data := .seq us.toArray }) (hi : IntsAre us ns) (hl : ns.length ≤ sizeLine) (hr : Room k callerA) (F : ∀ base : Heap, K.In base → base.Ns mainGlobals mg → FnG P w K mg base (L2.CX P w) k fa fd [x] sp)
    (bi : ∀ (st : Shared) (u : Value), BindsTo st fd ⟨[u], []⟩ [(x, u)]) (pr : ∀ H : Hp, Only H → SqL K H a (ns.map V.int) → sp [.ref a] H (fun v _ => v = .bl true) fun _ _ _ => False) :
    codeAny (model P w) callerA (.call (.ref fa) ⟨[.ref a], []⟩) (LawEnd s1) s1 := by
  have rv := vals_ints hi
  have no : ∀ {H : Hp}, (∀ b, H b = none) → Only H := fun h b => .inl (h b)
  cases hk : K.lookup a with
  | some o =>
    have e := KX a o hk
    rw [scr] at e
    cases e
    have lay : SqL K (fun _ => none) a (ns.map V.int) := .inr ⟨_, us.toArray, _, hk, rfl, rfl, rfl, by rw [List.size_toArray, hi.length]; exact hl, by simpa using rv⟩
    exact law_from (H := fun _ => none) KX G1 G2 G3 G4 G5 scr hr F bi (no fun _ => rfl) (pr _ (no fun _ => rfl) lay) (fun _ _ z => by cases z) (fun _ z => absurd rfl z) fun z => absurd rfl z
  | none =>
    obtain ⟨H, eH⟩ : ∃ H : Hp, H = upd (fun _ => none) a (.frz { cls := .type "list", data := .seq us.toArray } (.lst (ns.map V.int))) := ⟨_, rfl⟩
    have at_a : H a = some (.frz { cls := .type "list", data := .seq us.toArray } (.lst (ns.map V.int))) := by rw [eH, upd_same]
    have at_n : ∀ b, b ≠ a → H b = none := fun b nb => by rw [eH, upd_ne nb]
    have on : Only H := fun b => by
      by_cases hb : b = a
      · subst hb; exact .inr ⟨_, _, at_a⟩
      · exact .inl (at_n b hb)
    refine law_from KX G1 G2 G3 G4 G5 scr hr F bi on (pr H on (.inl (.inr ⟨_, at_a⟩))) (fun b u z => ?_) (fun b z => Classical.byContradiction fun nb => z (at_n b nb)) fun _ => hk
    by_cases hb : b = a
    · subst hb
      rw [at_a] at z
      cases z
      exact ⟨scr, by rw [List.length_map]; exact hl, us, _, rv, scr⟩
    · rw [at_n b hb] at z
      cases z
end
end DL

/-! DL10: calls of the program's own defs; a def -/
noncomputable section
namespace DL
open PySem L2 PyProof.Rows
open Evl (Ex)
structure FStp (G : Hp) (w : Pw) (H : Hp) (G' : Hp) (w' : Pw) (H' : Hp) : Prop where
  ex : Ex G G'
  gh : Ex G' H'
  keep : ∀ a o, H a = some o → ¬ POwn w a → H' a = some o ∧ G' a = G a
  own : ∀ a, POwn w' a → POwn w a ∨ H a = none
  dom : ∀ a, H a ≠ none → H' a ≠ none
  pw : ∀ a, POwn w a → POwn w' a
def FRel (K : PySem.W.Frag) (H G' : Hp) (w' : Pw) (H' : Hp) (v : V) : R → Prop
  | .val d => Rp K G' v d
  | .raw u => v = u
  | .ob o => ObRel K G' v o
  | .slot _ => False
  | .new ds => ∃ a xs, v = .ref a ∧ H' a = some (.lst xs) ∧ RpAll K G' xs ds ∧ G' a = none ∧ H a = none ∧ ¬ POwn w' a
def spF (K : PySem.W.Frag) (cl : String → Addr) (F : List R → Pw → FRes) : Sp := fun vs H Q E => ∃ (G : Hp) (rs : List R) (w : Pw), Ex G H ∧ Paired (AR K G) vs rs ∧ PwOk G w H ∧ match F rs w with
  | .ok r w' => ∀ v G' H', FStp G w H G' w' H' → PwOk G' w' H' → FRel K H G' w' H' v r → Q v H'
  | .err x w' => ∀ cls d G' H', FStp G w H G' w' H' → PwOk G' w' H' → XRel K cl x cls d H' → E cls d H'
  | .stuck => False
def fUser (F : List R → Pw → FRes) (fs : M (List R)) : M R := bnd fs fun rs s => match F rs s.w with
  | .ok r w' => .ok r { s with w := w' }
  | .err x w' => .err x { s with w := w' }
  | .stuck => .stuck
section
variable {K : PySem.W.Frag} {G H G' H' : Hp} {s : DSt} {σ : L2.St} {w' : Pw}
theorem call_stp (S : SA K G s σ H) (f : FStp G s.w H G' w' H') (pw : PwOk G' w' H') : Stp G s σ H G' { s with w := w' } σ H' ∧ SA K G' { s with w := w' } σ H' := by
  have own : ∀ i a, OwnAt s σ i a → H a ≠ none ∧ ¬ POwn s.w a := fun i a z => ⟨by obtain ⟨xs, e⟩ := S.ownH (.inl ⟨i, z⟩); rw [e]; simp, S.pne i a z⟩
  refine ⟨⟨f.ex, fun a o h n => f.keep a o h fun z => n (.inr z), fun a z => ?_, f.dom, f.pw⟩, ⟨S.len, f.gh, fun i sl h => ?_, S.inj, fun i a z => ?_, pw, fun i a z q => ?_⟩⟩
  · rcases z with z | z
    · exact .inl (.inl z)
    · exact (f.own a z).imp .inr id
  · have q := S.slot i sl h
    cases sl with
    | no => trivial
    | val d => obtain ⟨v, e, hd⟩ := q; exact ⟨v, e, dp_mono f.ex _ _ hd⟩
    | raw v => exact q
    | ob o => obtain ⟨v, e, hd⟩ := q; exact ⟨v, e, ob_mono f.ex hd⟩
    | own es =>
      obtain ⟨a, xs, e, ha, hh⟩ := q
      have e' : σ[i]? = some (some (.ref a)) := by
        cases z : σ[i]? with
        | none => rw [z] at e; cases e
        | some o => rw [z] at e; simp at e; rw [e]
      exact ⟨a, xs, e, (f.keep a _ ha (own i a ⟨⟨es, h⟩, e'⟩).2).1, dps_mono f.ex _ _ hh⟩
  · obtain ⟨xs, e⟩ := S.ownH (.inl ⟨i, z⟩)
    rw [(f.keep a _ e (own i a z).2).2]
    exact S.ownG i a z
  · rcases f.own a q with q | q
    · exact (own i a z).2 q
    · exact (own i a z).1 q
end
section
variable {X : Cx} {cl : String → Addr} {W : WX} {e : Expr} {es : List Expr} {fs : M (List R)} {pos : Pos}
theorem user_reads {K : PySem.W.Frag} {F : List R → Pw → FRes} {σ : L2.St} {H : Hp} {Q : VK} (q : tD K cl W (fUser F fs) σ H Q) : tCallS (spF K cl F) (WE W) (tAe K cl W fs) σ H Q := by
  obtain ⟨G, s, S, q⟩ := q
  refine ⟨G, s, S, out_mono (out_bind q) fun rs G1 s1 H1 st1 S1 k vs hv => ⟨G1, rs, s1.w, S1.gh, hv, S1.pw, ?_⟩⟩
  cases z : F rs s1.w with
  | ok r w' =>
    rw [z] at k
    intro v G' H' f pw fr
    obtain ⟨st, S'⟩ := call_stp S1 f pw
    refine k G' H' st S' v ?_
    cases r with
    | val d => exact fr
    | raw u => exact fr
    | ob o => exact fr
    | slot i => exact fr.elim
    | new ds =>
      obtain ⟨a, xs, e, ha, hd, hg, h0, hn⟩ := fr
      refine ⟨a, xs, e, ha, hd, hg, Classical.byContradiction fun z => st1.dom a z h0, fun z => ?_⟩
      rcases z with ⟨i, z⟩ | z
      · obtain ⟨ys, e2⟩ := S1.ownH (.inl ⟨i, z⟩)
        rw [h0] at e2; cases e2
      · exact hn z
  | err x w' =>
    rw [z] at k
    intro cls d G' H' f pw xr
    obtain ⟨st, S'⟩ := call_stp S1 f pw
    exact k cls d G' H' st S' xr
  | stuck => rw [z] at k; exact k
theorem d_user {F : List R → Pw → FRes} {k : Nat} {f : Addr} {fd : FuncData} {ps : List Str} {x : Str} {p : Pos} (hF : FnG X.prog X.w X.K X.mg X.base (L2.CX X.prog X.w) k f fd ps (spF X.K cl F)) (hr : RoomG k X.A) (hg : Gl X x) (hm : X.mg x = some (.ref f)) (hk : PySem.W.keepIn X.K (.ref f) = true) (hb : Binds X.K fd ps [])
    (hx : ∀ σ, PassesAt (L2.CX X.prog X.w) X σ (WE W σ)) (ha : DAe X cl W (e :: es) fs) (hdb : (x == ("__debug__" : Str)) = false := by decide) (he : starEach (e :: es) X.env = (false, eval e X.env) :: starEach es X.env := by rfl) (hpl : (backTo pos (starEach es X.env)).any (·.1) = false := by rfl) :
    DE X cl W (.Call (.Name x p) (e :: es) [] pos) (fUser F fs) := pe_imp (pe_callG hF hr hg hm hk hb hx ha hdb he hpl) fun σ H Q q => user_reads q
/-- within a comprehension nothing is let out -/
theorem passA0 {X : Cx} (σ : L2.St) : PassesAt (L2.CX X.prog X.w) X σ (WE W0 σ) := fun _ _ _ _ _ _ h => by
  obtain ⟨_, _, _, _, _, _, _, _, _, _, _, _, z⟩ := h
  exact z.elim
end
/-! ### a def -/
def toSl : R → Sl
  | .val d => .val d
  | .raw v => .raw v
  | .ob o => .ob o
  | _ => .no
def finR (r : R) (s : DSt) : Option R := match r with
  | .slot i => match s.d[i]? with
    | some (.own ds) => some (.new ds)
    | some (.val d) => some (.val d)
    | _ => none
  | r => some r
def runF (n nps : Nat) (p : DSt → Flow) : List R → Pw → FRes := fun rs w => if rs.length = nps then match p ⟨rs.map toSl ++ List.replicate (n - nps) .no, w⟩ with
  | .next s => .ok (.val .none) s.w
  | .ret r s => match finR r s with
    | some r' => .ok r' s.w
    | none => .stuck
  | .err x s => .err x s.w
  | _ => .stuck
  else .stuck
section
variable {K : PySem.W.Frag} {cl : String → Addr}
theorem pair_len {G : Hp} : ∀ {vs : List V} {rs : List R}, Paired (AR K G) vs rs → vs.length = rs.length
  | _, _, .nil => rfl
  | _, _, .cons _ t => by simp [pair_len t]
theorem pair_get {G : Hp} : ∀ {vs : List V} {rs : List R} {i : Nat} {r : R}, Paired (AR K G) vs rs → rs[i]? = some r → ∃ v, vs[i]? = some v ∧ AR K G v r
  | _, _, _, _, .nil, e => by simp at e
  | _, _, 0, r, .cons h t, e => by simp at e; subst e; exact ⟨_, rfl, h⟩
  | _, _, i + 1, r, .cons h t, e => by simpa using pair_get (i := i) t (by simpa using e)
theorem start_sa {G H : Hp} {N : List Str} {vs : List V} {rs : List R} {w : Pw} {nps : Nat} (gh : Ex G H) (hv : Paired (AR K G) vs rs) (pw : PwOk G w H) (hn : rs.length = nps) (hN : nps ≤ N.length) : SA K G ⟨rs.map toSl ++ List.replicate (N.length - nps) .no, w⟩ (L2.start N vs) H := by
  have hl := pair_len hv
  have no : ∀ (i : Nat) ds, (rs.map toSl ++ List.replicate (N.length - nps) Sl.no)[i]? ≠ some (.own ds) := by
    intro i ds e
    rw [List.getElem?_append] at e
    split at e
    · rw [List.getElem?_map] at e
      cases q : rs[i]? with
      | none => rw [q] at e; cases e
      | some r => rw [q] at e; cases r <;> cases e
    · rw [List.getElem?_replicate] at e
      split at e <;> cases e
  refine ⟨by simp [L2.start, hl]; omega, gh, fun i sl h => ?_, fun i j a h _ => ?_, fun i a h => ?_, pw, fun i a h => ?_⟩
  · cases sl with
    | no => trivial
    | own ds => exact (no i ds h).elim
    | val d =>
      simp only [List.getElem?_append] at h
      split at h
      · rename_i hi
        rw [List.getElem?_map] at h
        cases q : rs[i]? with
        | none => rw [q] at h; cases h
        | some r =>
          rw [q] at h
          obtain ⟨v, e, ar⟩ := pair_get hv q
          have hi' : i < (vs.map some).length := by simp at hi ⊢; omega
          cases r with
          | val d' =>
            cases h
            refine ⟨v, ?_, ar⟩
            simp only [L2.start, List.getElem?_append, hi', if_true, List.getElem?_map, e]
            rfl
          | raw u => cases h
          | ob u => cases h
          | new u => cases h
          | slot u => cases h
      · rw [List.getElem?_replicate] at h
        split at h <;> cases h
    | ob d =>
      simp only [List.getElem?_append] at h
      split at h
      · rename_i hi
        rw [List.getElem?_map] at h
        cases q : rs[i]? with
        | none => rw [q] at h; cases h
        | some r =>
          rw [q] at h
          obtain ⟨v, e, ar⟩ := pair_get hv q
          have hi' : i < (vs.map some).length := by simp at hi ⊢; omega
          cases r with
          | ob d' =>
            cases h
            refine ⟨v, ?_, ar⟩
            simp only [L2.start, List.getElem?_append, hi', if_true, List.getElem?_map, e]
            rfl
          | raw u => cases h
          | val u => cases h
          | new u => cases h
          | slot u => cases h
      · rw [List.getElem?_replicate] at h
        split at h <;> cases h
    | raw u =>
      simp only [List.getElem?_append] at h
      split at h
      · rename_i hi
        rw [List.getElem?_map] at h
        cases q : rs[i]? with
        | none => rw [q] at h; cases h
        | some r =>
          rw [q] at h
          obtain ⟨v, e, ar⟩ := pair_get hv q
          have hi' : i < (vs.map some).length := by simp at hi ⊢; omega
          cases r with
          | raw u' =>
            cases h
            have ar : v = _ := ar
            subst ar
            show (L2.start N vs)[i]?.join = _
            simp only [L2.start, List.getElem?_append, hi', if_true, List.getElem?_map, e]
            rfl
          | val u => cases h
          | ob u => cases h
          | new u => cases h
          | slot u => cases h
      · rw [List.getElem?_replicate] at h
        split at h <;> cases h
  · obtain ⟨⟨ds, e⟩, _⟩ := h; exact (no i ds e).elim
  · obtain ⟨⟨ds, e⟩, _⟩ := h; exact (no i ds e).elim
  · obtain ⟨⟨ds, e⟩, _⟩ := h; exact (no i ds e).elim
theorem start_own {rs : List R} {n : Nat} {w : Pw} {σ : L2.St} {a : Addr} (h : Own ⟨rs.map toSl ++ List.replicate n .no, w⟩ σ a) : POwn w a := by
  rcases h with ⟨i, ⟨ds, e⟩, _⟩ | h
  · exfalso
    simp only [List.getElem?_append] at e
    split at e
    · rw [List.getElem?_map] at e
      cases q : rs[i]? with
      | none => rw [q] at e; cases e
      | some r => rw [q] at e; cases r <;> cases e
    · rw [List.getElem?_replicate] at e
      split at e <;> cases e
  · exact h
theorem fstp_of {G H G' H' : Hp} {rs : List R} {n : Nat} {w : Pw} {σ σ' : L2.St} {s' : DSt} (st : Stp G ⟨rs.map toSl ++ List.replicate n .no, w⟩ σ H G' s' σ' H') (S' : SA K G' s' σ' H') : FStp G w H G' s'.w H' :=
  ⟨st.ex, S'.gh, fun a o h nw => st.keep a o h fun z => nw (start_own z), fun a z => (st.own a (.inr z)).imp start_own id, st.dom, st.pw⟩
/-- THE RULE for a def -/
theorem def_ok {P : Program} {w : World} {mg : Str → Option Value} {base : Heap} {x qual : Str} {st : Stmt} {f : Addr} {fd : FuncData} {N ps : List Str} {k : Nat} {p : DSt → Flow} (F : Fun K x qual st f fd) (S : FnScope N ps (defScope st)) (hN : ps.length ≤ N.length)
    (hb : ∀ (cdv : Value) (A : Around) (outer : List Env) (s : Shared) (H : Hp) (E : XK), RoomG k (A.deeper (envOfC qual (defScope st) s.heap.objs.size f cdv)) →
      DSs (cxOf (L2.CX P w) P w K mg base N qual (defScope st) f cdv A outer s H E) cl (fun cls d _ H => E cls d H) (defBody st) p) : FnG P w K mg base (L2.CX P w) (k + 1) f fd ps (spF K cl (runF N.length ps.length p)) := by
  have hlen : ∀ {rs : List R} {w : Pw}, (match runF N.length ps.length p rs w with | .stuck => False | _ => True) → rs.length = ps.length := by
    intro rs w h
    unfold runF at h
    split at h
    · exact h.elim
    · rename_i z
      by_cases q : rs.length = ps.length
      · exact q
      · rw [if_neg q] at z; exact absurd rfl z
  refine okG F S (fun vs H Q E h => ?_) fun cdv A outer s H vs Q E hr h => ⟨_, hb cdv A outer s H E hr, ?_⟩
  · obtain ⟨G, rs, w, gh, hv, pw, k⟩ := h
    rw [pair_len hv]
    refine hlen (w := w) ?_
    cases z : runF N.length ps.length p rs w with
    | ok r w' => trivial
    | err x w' => trivial
    | stuck => rw [z] at k; exact k
  · obtain ⟨G, rs, w, gh, hv, pw, k⟩ := h
    have hn : rs.length = ps.length := by
      refine hlen (w := w) ?_
      cases z : runF N.length ps.length p rs w with
      | ok r w' => trivial
      | err x w' => trivial
      | stuck => rw [z] at k; exact k
    refine ⟨G, ⟨rs.map toSl ++ List.replicate (N.length - ps.length) .no, w⟩, show SA K G _ (L2.start N vs) H from start_sa gh hv pw hn hN, ?_⟩
    unfold runF at k
    rw [if_pos hn] at k
    cases z : p ⟨rs.map toSl ++ List.replicate (N.length - ps.length) .no, w⟩ with
    | next s' => rw [z] at k; exact fun G' σ' H' st S' => k .non G' H' (fstp_of st S') S'.pw .non
    | brk s' => rw [z] at k; exact k.elim
    | cnt s' => rw [z] at k; exact k.elim
    | stuck => rw [z] at k; exact k.elim
    | err x s' => rw [z] at k; exact fun cls d G' σ' H' st S' xr => k cls d G' H' (fstp_of st S') S'.pw xr
    | ret r s' =>
      rw [z] at k
      intro v G' σ' H' st S' rr
      cases r with
      | val d => exact k v G' H' (fstp_of st S') S'.pw rr
      | raw u => exact k v G' H' (fstp_of st S') S'.pw rr
      | ob o => exact k v G' H' (fstp_of st S') S'.pw rr
      | new ds =>
        refine k v G' H' (fstp_of st S') S'.pw ?_
        obtain ⟨a, xs, e, ha, hd, hg, h0, hn⟩ := rr
        exact ⟨a, xs, e, ha, hd, hg, h0, fun z => hn (.inr z)⟩
      | slot i =>
        have rr : σ'[i]? = some (some v) := rr
        dsimp only [finR] at k
        cases q : s'.d[i]? with
        | none => rw [q] at k; exact k.elim
        | some sl =>
          rw [q] at k
          cases sl with
          | no => exact k.elim
          | raw u => exact k.elim
          | ob o => exact k.elim
          | val d =>
            refine k v G' H' (fstp_of st S') S'.pw ?_
            obtain ⟨u, e, hd⟩ := S'.slot i _ q
            rw [rr] at e
            cases e
            exact hd
          | own ds =>
            refine k v G' H' (fstp_of st S') S'.pw ?_
            obtain ⟨a, xs, e, ha, hd⟩ := S'.slot i _ q
            rw [rr] at e
            cases e
            have ho : OwnAt s' σ' i a := ⟨⟨ds, q⟩, rr⟩
            refine ⟨a, xs, rfl, ha, hd, S'.ownG i a ho, ?_, S'.pne i a ho⟩
            rcases st.own a (.inl ⟨i, ho⟩) with z | z
            · have z := start_own z
              exact absurd (st.pw a z) (S'.pne i a ho)
            · exact z
end
end DL

/-! DL11: methods of lists, isinstance, small statements -/
noncomputable section
namespace DL
open PySem L2 PyProof.Rows
open Evl (Ex)
section
variable {K : PySem.W.Frag} {G H : Hp} {s : DSt} {σ : L2.St}
/-- an own list's content is changed -/
theorem own_write {i : Nat} {ds ds' : List PyData} {a : Addr} {xs' : List V} (S : SA K G s σ H) (h : s.d[i]? = some (.own ds)) (e : σ[i]? = some (some (.ref a))) (hd : RpAll K G xs' ds') :
    Stp G s σ H G (putS i (.own ds') s) σ (upd H a (.lst xs')) ∧ SA K G (putS i (.own ds') s) σ (upd H a (.lst xs')) := by
  have il : i < s.d.length := (List.getElem?_eq_some_iff.mp h).1
  have ho : OwnAt s σ i a := ⟨⟨ds, h⟩, e⟩
  have hg := S.ownG i a ho
  have od : ∀ j b, OwnAt (putS i (.own ds') s) σ j b → OwnAt s σ j b := by
    rintro j b ⟨⟨es, q⟩, z⟩
    by_cases w : j = i
    · subst w; exact ⟨⟨ds, h⟩, z⟩
    · simp only [putS, List.getElem?_set_ne (Ne.symm w)] at q; exact ⟨⟨es, q⟩, z⟩
  have ow : ∀ b, Own (putS i (.own ds') s) σ b → Own s σ b := fun b z => z.imp (fun ⟨j, z⟩ => ⟨j, od j b z⟩) id
  refine ⟨⟨Ex.refl G, fun b o hb nb => ⟨?_, rfl⟩, fun b z => .inl (ow b z), fun b hb => ?_, fun _ z => z⟩, ⟨by simp [putS, S.len], fun b u hb => ?_, fun j sl hj => ?_, fun j k b h1 h2 => S.inj j k b (od j b h1) (od k b h2), fun j b z => S.ownG j b (od j b z), ?_, fun j b z => S.pne j b (od j b z)⟩⟩
  · rw [upd_ne fun z => nb (by subst z; exact .inl ⟨i, ho⟩)]; exact hb
  · by_cases z : b = a
    · subst z; rw [upd_same]; simp
    · rw [upd_ne z]; exact hb
  · rw [upd_ne fun z => by subst z; rw [hg] at hb; cases hb]; exact S.gh b u hb
  · by_cases w : j = i
    · subst w
      simp only [putS, List.getElem?_set_self il] at hj
      cases hj
      exact ⟨a, xs', by rw [e] <;> rfl, upd_same, hd⟩
    · simp only [putS, List.getElem?_set_ne (Ne.symm w)] at hj
      have q := S.slot j sl hj
      cases sl with
      | no => trivial
      | val d => exact q
      | raw v => exact q
      | ob o => exact q
      | own es =>
        obtain ⟨b, ys, e2, hb, hh⟩ := q
        refine ⟨b, ys, e2, ?_, hh⟩
        have e3 : σ[j]? = some (some (.ref b)) := by
          cases z : σ[j]? with
          | none => rw [z] at e2; cases e2
          | some o => rw [z] at e2; simp at e2; rw [e2]
        rw [upd_ne fun z => w (by subst z; exact S.inj j i b ⟨⟨es, hj⟩, e3⟩ ho)]
        exact hb
  · have q := S.pw
    have pn := S.pne i a ho
    unfold PwOk at q ⊢
    split
    · trivial
    · rename_i pa ca cells t e4
      have e4 : s.w = some (pa, ca, cells, t) := e4
      rw [e4] at q pn
      exact ⟨q.1, by rw [upd_ne fun z => pn (.inl z.symm)]; exact q.2.1, by rw [upd_ne fun z => pn (.inr z.symm)]; exact q.2.2.1, q.2.2.2⟩
theorem own_at {i : Nat} {ds : List PyData} (S : SA K G s σ H) (h : s.d[i]? = some (.own ds)) : ∃ a xs, σ[i]? = some (some (.ref a)) ∧ H a = some (.lst xs) ∧ RpAll K G xs ds := by
  obtain ⟨a, xs, e, ha, hd⟩ := S.slot i _ h
  refine ⟨a, xs, ?_, ha, hd⟩
  cases z : σ[i]? with
  | none => rw [z] at e; cases e
  | some o => rw [z] at e; simp at e; rw [e]
end
theorem intsAre_vals' : ∀ {ns : List Int} {us : List Value}, Vals (ns.map V.int) us → PyProof.Rows.IntsAre us ns
  | [], _, .nil => .nil
  | n :: ns, _, .cons r t => by
    obtain ⟨k, rfl⟩ := r
    exact .cons n k (intsAre_vals' t)
/-- x.append(e) -/
def isOwn (i : Nat) (s : DSt) : Bool := match s.d[i]? with
  | some (.own _) => true
  | _ => false
def fApp (i : Nat) (f : M R) : M R := fun s => if isOwn i s then bnd f (fun r => bnd (fEsc r) fun r' s' => match r', s'.d[i]? with
    | .val d, some (.own ds) => if ltS (ds.length) then .ok (.val .none) (putS i (.own (ds ++ [d])) s') else .stuck
    | _, _ => .stuck) s
  else .stuck
theorem isOwn_get {i : Nat} {s : DSt} (h : isOwn i s = true) : ∃ ds, s.d[i]? = some (.own ds) := by
  unfold isOwn at h
  split at h
  · exact ⟨_, by assumption⟩
  · cases h
section
variable {X : Cx} {cl : String → Addr} {W : WX} {e a b c : Expr} {es : List Expr} {f g : M R} {fs : M (List R)} {pos : Pos} {p q : DSt → Flow}
theorem d_append {i : Nat} {x : Expr} {ap cp : Pos} (hx : PE X x (tVar i)) (ha : DE X cl W e f) (hbase : attributeBase x "append" X.env (eval x X.env) = eval x X.env := by rfl)
    (hfew : ((backTo cp (starEach [e] X.env)).all (fun x => !x.1) && (backToKw cp (keywordEach [] X.env)).all (fun x => x.1.isSome) && decide (([e] : List Expr).length + ([] : List Keyword).length + (if ([] : List Keyword).isEmpty then 0 else 1) < 30)) = true := by rfl)
    (hline : (ap.endLine == cp.line) = true := by rfl) (hs : starEach [e] X.env = (false, eval e X.env) :: starEach [] X.env := by rfl) (hplain : (backTo cp (starEach [] X.env)).any (·.1) = false := by rfl) :
    DE X cl W (.Call (.Attribute x "append" ap) [e] [] cp) (fApp i f) := by
  refine pe_imp (pe_bm PySem.F.plainAttrs_list PySem.F.slot_list_append PySem.F.type_list_append mt_append hx (pa_cons ha pa_nil hs) hbase hfew hline hs hplain) fun σ H Q ⟨G, s, S, q⟩ => ?_
  unfold fApp at q
  split at q
  rotate_left
  · exact q.elim
  rename_i ho
  obtain ⟨ds0, h0⟩ := isOwn_get ho
  obtain ⟨l, xs0, el, hl0, _⟩ := own_at S h0
  refine ⟨.ref l, el, .inl ⟨rfl, _, .of hl0⟩, G, s, S, ?_⟩
  refine out_mono (out_esc q) fun r G1 s1 H1 st1 S1 k v rr => ?_
  obtain ⟨G2, s2, r2, st2, S2, ar, ex, k2⟩ := k v rr
  split at k2
  · rename_i d ds h2
    split at k2
    · rename_i hz
      obtain ⟨l2, xs, el2, hl2, hd2⟩ := own_at S2 h2
      rw [el] at el2
      cases el2
      obtain ⟨st3, S3⟩ := own_write S2 h2 el (dps_app hd2 (.cons ar .nil))
      exact ⟨l, xs, v, rfl, rfl, hl2, by rw [dps_len hd2]; exact hz, k2 _ _ st3 S3 _ .non⟩
    · exact k2.elim
  · exact k2.elim
/-- x.pop(), x.pop(k) -/
def fPop (i : Nat) : M R := fun s => match s.d[i]? with
  | some (.own ds) => match ds[ds.length - 1]? with
    | some d => .ok (.val d) (putS i (.own ds.dropLast) s)
    | none => .stuck
  | _ => .stuck
theorem dps_dropLast {K : PySem.W.Frag} {H : Hp} {ds : List PyData} {vs : List V} (h : RpAll K H vs ds) : RpAll K H vs.dropLast ds.dropLast := by
  rw [List.dropLast_eq_take, List.dropLast_eq_take, dps_len h]
  exact dps_take _ h
theorem dps_at {K : PySem.W.Frag} {G : Hp} {ds : List PyData} {vs : List V} {i : Nat} {d : PyData} (h : RpAll K G vs ds) (e : ds[i]? = some d) : ∃ v, vs[i]? = some v ∧ Rp K G v d := by
  have hi : i < vs.length := by rw [dps_len h]; exact (List.getElem?_eq_some_iff.mp e).1
  obtain ⟨d', e', r⟩ := dps_get h (List.getElem?_eq_getElem hi)
  rw [e] at e'
  cases e'
  exact ⟨_, List.getElem?_eq_getElem hi, r⟩
theorem d_pop {i : Nat} {x : Expr} {ap cp : Pos} (hx : PE X x (tVar i)) (hbase : attributeBase x "pop" X.env (eval x X.env) = eval x X.env := by rfl) (hline : (ap.endLine == cp.line) = true := by rfl) : DE X cl W (.Call (.Attribute x "pop" ap) [] [] cp) (fPop i) := by
  refine pe_imp (pe_bm0 PySem.F.plainAttrs_list PySem.F.slot_list_pop PySem.F.type_list_pop mt_pop hx hbase hline) fun σ H Q ⟨G, s, S, q⟩ => ?_
  unfold fPop at q
  split at q
  · rename_i ds h0
    obtain ⟨l, xs, el, hl0, hd⟩ := own_at S h0
    split at q
    · rename_i d e
      rw [← dps_len hd] at e
      obtain ⟨v, ev, rv⟩ := dps_at hd e
      obtain ⟨st, S'⟩ := own_write S h0 el (dps_dropLast hd)
      exact ⟨.ref l, el, .inl ⟨rfl, _, .of hl0⟩, l, xs, v, rfl, rfl, hl0, ev, q _ _ st S' v rv⟩
    · exact q.elim
  · exact q.elim
def fPopAt (i : Nat) (f : M R) : M R := fun s => if isOwn i s then bnd f (fun r s' => match look r s', s'.d[i]? with
    | some (.int k), some (.own ds) => match ixN ds.length k with
      | some j => match ds[j]? with
        | some d => if inW k then .ok (.val d) (putS i (.own (ds.eraseIdx j)) s') else .stuck
        | none => .stuck
      | none => .stuck
    | _, _ => .stuck) s
  else .stuck
theorem d_popAt {i : Nat} {x : Expr} {ap cp : Pos} (hx : PE X x (tVar i)) (ha : DE X cl W e f) (hbase : attributeBase x "pop" X.env (eval x X.env) = eval x X.env := by rfl)
    (hfew : ((backTo cp (starEach [e] X.env)).all (fun x => !x.1) && (backToKw cp (keywordEach [] X.env)).all (fun x => x.1.isSome) && decide (([e] : List Expr).length + ([] : List Keyword).length + (if ([] : List Keyword).isEmpty then 0 else 1) < 30)) = true := by rfl)
    (hline : (ap.endLine == cp.line) = true := by rfl) (hs : starEach [e] X.env = (false, eval e X.env) :: starEach [] X.env := by rfl) (hplain : (backTo cp (starEach [] X.env)).any (·.1) = false := by rfl) :
    DE X cl W (.Call (.Attribute x "pop" ap) [e] [] cp) (fPopAt i f) := by
  refine pe_imp (pe_bm PySem.F.plainAttrs_list PySem.F.slot_list_pop PySem.F.type_list_pop mt_popAt hx (pa_cons ha pa_nil hs) hbase hfew hline hs hplain) fun σ H Q ⟨G, s, S, q⟩ => ?_
  unfold fPopAt at q
  split at q
  rotate_left
  · exact q.elim
  rename_i ho
  obtain ⟨ds0, h0⟩ := isOwn_get ho
  obtain ⟨l, xs0, el, hl0, _⟩ := own_at S h0
  refine ⟨.ref l, el, .inl ⟨rfl, _, .of hl0⟩, G, s, S, ?_⟩
  refine out_mono (out_bind q) fun r G1 s1 H1 st1 S1 k v rr => ?_
  split at k
  · rename_i n ds e1 h1
    obtain rfl := dq_int (look_q S1 rr e1)
    split at k
    · rename_i j ej
      split at k
      · rename_i d ed
        split at k
        · rename_i hb
          obtain ⟨l2, xs, el2, hl2, hd2⟩ := own_at S1 h1
          rw [el] at el2
          cases el2
          obtain ⟨u, eu, ru⟩ := dps_at hd2 ed
          obtain ⟨st3, S3⟩ := own_write S1 h1 el (dps_erase j hd2)
          have hj := (ixN_seq ej).1
          exact ⟨l, xs, n, j, u, rfl, rfl, hl2, hb.1, hb.2, by rw [dps_len hd2]; exact hj, eu, k _ _ st3 S3 u ru⟩
        · exact k.elim
      · exact k.elim
    · exact k.elim
  · exact k.elim
/-- x.insert(k, e), 0 ≤ k -/
def fIns (i : Nat) (fs : M (List R)) : M R := fun s => if isOwn i s then bnd fs (fun rs s' => match rs, s'.d[i]? with
    | [.val (.int k), .val d], some (.own ds) => if 0 ≤ k ∧ inW k ∧ ltS (ds.length) then .ok (.val .none) (putS i (.own (ds.take k.toNat ++ [d] ++ ds.drop k.toNat)) s') else .stuck
    | _, _ => .stuck) s
  else .stuck
theorem d_insert {i : Nat} {x : Expr} {ap cp : Pos} (hx : PE X x (tVar i)) (ha : DAe X cl W (a :: [b]) fs) (hbase : attributeBase x "insert" X.env (eval x X.env) = eval x X.env := by rfl)
    (hfew : ((backTo cp (starEach [a, b] X.env)).all (fun x => !x.1) && (backToKw cp (keywordEach [] X.env)).all (fun x => x.1.isSome) && decide (([a, b] : List Expr).length + ([] : List Keyword).length + (if ([] : List Keyword).isEmpty then 0 else 1) < 30)) = true := by rfl)
    (hline : (ap.endLine == cp.line) = true := by rfl) (hs : starEach [a, b] X.env = (false, eval a X.env) :: starEach [b] X.env := by rfl) (hplain : (backTo cp (starEach [b] X.env)).any (·.1) = false := by rfl) :
    DE X cl W (.Call (.Attribute x "insert" ap) [a, b] [] cp) (fIns i fs) := by
  refine pe_imp (pe_bm PySem.F.plainAttrs_list PySem.F.slot_list_insert PySem.F.type_list_insert mt_insert hx ha hbase hfew hline hs hplain) fun σ H Q ⟨G, s, S, q⟩ => ?_
  unfold fIns at q
  split at q
  rotate_left
  · exact q.elim
  rename_i ho
  obtain ⟨ds0, h0⟩ := isOwn_get ho
  obtain ⟨l, xs0, el, hl0, _⟩ := own_at S h0
  refine ⟨.ref l, el, .inl ⟨rfl, _, .of hl0⟩, G, s, S, ?_⟩
  refine out_mono (out_bind q) fun rs G1 s1 H1 st1 S1 k vs hv => ?_
  split at k
  · rename_i n d ds h1
    split at k
    · rename_i hb
      cases hv with
      | cons r1 r2 =>
        cases r2 with
        | cons r2 r3 =>
          cases r3
          cases (show Rp X.K G1 _ (.int n) from r1)
          obtain ⟨l2, xs, el2, hl2, hd2⟩ := own_at S1 h1
          rw [el] at el2
          cases el2
          obtain ⟨st3, S3⟩ := own_write S1 h1 el (dps_app (dps_app (dps_take n.toNat hd2) (.cons r2 .nil)) (dps_drop n.toNat hd2))
          exact ⟨l, xs, n, _, rfl, rfl, hl2, by rw [dps_len hd2]; exact hb.2.2, hb.1, hb.2.1.2, k _ _ st3 S3 _ .non⟩
    · exact k.elim
  · exact k.elim
/-- x.remove(k): ints -/
def fRem (i : Nat) (f : M R) : M R := fun s => if isOwn i s then bnd f (fun r s' => match look r s', s'.d[i]? with
    | some (.int k), some (.own ds) => match intsD ds with
      | some ns => match ns.findIdx? (· == k) with
        | some j => .ok (.val .none) (putS i (.own ((ns.eraseIdx j).map .int)) s')
        | none => .stuck
      | none => .stuck
    | _, _ => .stuck) s
  else .stuck
theorem d_remove {i : Nat} {x : Expr} {ap cp : Pos} (hx : PE X x (tVar i)) (ha : DE X cl W e f) (hbase : attributeBase x "remove" X.env (eval x X.env) = eval x X.env := by rfl)
    (hfew : ((backTo cp (starEach [e] X.env)).all (fun x => !x.1) && (backToKw cp (keywordEach [] X.env)).all (fun x => x.1.isSome) && decide (([e] : List Expr).length + ([] : List Keyword).length + (if ([] : List Keyword).isEmpty then 0 else 1) < 30)) = true := by rfl)
    (hline : (ap.endLine == cp.line) = true := by rfl) (hs : starEach [e] X.env = (false, eval e X.env) :: starEach [] X.env := by rfl) (hplain : (backTo cp (starEach [] X.env)).any (·.1) = false := by rfl) :
    DE X cl W (.Call (.Attribute x "remove" ap) [e] [] cp) (fRem i f) := by
  refine pe_imp (pe_bm PySem.F.plainAttrs_list PySem.F.slot_list_remove PySem.F.type_list_remove mt_remove hx (pa_cons ha pa_nil hs) hbase hfew hline hs hplain) fun σ H Q ⟨G, s, S, q⟩ => ?_
  unfold fRem at q
  split at q
  rotate_left
  · exact q.elim
  rename_i ho
  obtain ⟨ds0, h0⟩ := isOwn_get ho
  obtain ⟨l, xs0, el, hl0, _⟩ := own_at S h0
  refine ⟨.ref l, el, .inl ⟨rfl, _, .of hl0⟩, G, s, S, ?_⟩
  refine out_mono (out_bind q) fun r G1 s1 H1 st1 S1 k v rr => ?_
  split at k
  · rename_i n ds e1 h1
    obtain rfl := dq_int (look_q S1 rr e1)
    split at k
    · rename_i ns en
      split at k
      · rename_i j ej
        obtain ⟨l2, xs, el2, hl2, hd2⟩ := own_at S1 h1
        rw [el] at el2
        cases el2
        have ex := ints_rp hd2 en
        subst ex
        obtain ⟨hj, h3, h4⟩ := List.findIdx?_eq_some_iff_getElem.mp ej
        obtain ⟨st3, S3⟩ := own_write S1 h1 el (rp_ints (K := X.K) (G := G1) (ns.eraseIdx j))
        refine ⟨l, ns, n, j, rfl, rfl, hl2, ?_, fun m hm => ?_, k _ _ st3 S3 _ .non⟩
        · rw [List.getElem?_eq_getElem hj]; simpa using h3
        · have h5 := h4 m hm
          rw [List.getElem?_eq_getElem (by omega)]
          simpa using h5
      · exact k.elim
    · exact k.elim
  · exact k.elim
/-- x.clear() -/
def fClear (i : Nat) : M R := fun s => match s.d[i]? with
  | some (.own ds) => .ok (.val .none) (putS i (.own []) s)
  | _ => .stuck
theorem d_clear {i : Nat} {x : Expr} {ap cp : Pos} (hx : PE X x (tVar i)) (hbase : attributeBase x "clear" X.env (eval x X.env) = eval x X.env := by rfl) (hline : (ap.endLine == cp.line) = true := by rfl) : DE X cl W (.Call (.Attribute x "clear" ap) [] [] cp) (fClear i) := by
  refine pe_imp (pe_bm0 PySem.F.plainAttrs_list PySem.F.slot_list_clear PySem.F.type_list_clear mt_clear hx hbase hline) fun σ H Q ⟨G, s, S, q⟩ => ?_
  unfold fClear at q
  split at q
  · rename_i ds h0
    obtain ⟨l, xs, el, hl0, hd⟩ := own_at S h0
    obtain ⟨st, S'⟩ := own_write S h0 el (.nil)
    exact ⟨.ref l, el, .inl ⟨rfl, _, .of hl0⟩, l, xs, rfl, rfl, hl0, q _ _ st S' _ .non⟩
  · exact q.elim
/-- x.index(e), flat -/
def flatD : PyData → Bool
  | .none | .bool _ | .int _ | .str _ => true
  | _ => false
theorem flat_v {K : PySem.W.Frag} {G : Hp} {v : V} {d : PyData} (h : Rp K G v d) (f : flatD d = true) : flatV v = true := by
  cases h <;> first | rfl | cases f
theorem eqv_flat {K : PySem.W.Frag} {G : Hp} {v u : V} {d e : PyData} (h : Rp K G v d) (h2 : Rp K G u e) (f : flatD d = true) (f2 : flatD e = true) : eqV v u = PyData.eqv d e := by
  cases h <;> first | (cases f; done) | (cases h2 <;> first | (cases f2; done) | rfl | simp [eqV, PyData.eqv])
def idxO (ds : List PyData) (d : PyData) : Option Nat := if ds.all flatD && flatD d then ds.findIdx? (fun z => PyData.eqv z d) else none
def isLst (x : R) (s : DSt) : Bool := match look x s with
  | some (.list _) => true
  | _ => false
def fIndex (g f : M R) : M R := bnd g fun x s => if isLst x s then bnd f (fun r s => match look x s, look r s with
  | some (.list ds), some d => match idxO ds d with
    | some j => .ok (.val (.int (j : Nat))) s
    | none => .stuck
  | _, _ => .stuck) s
  else .stuck
theorem isLst_ty {K : PySem.W.Frag} {H0 G H : Hp} {s : DSt} {σ : L2.St} {v : V} {x : R} (S : SA K G s σ H) (h : RRel K H0 G s σ H v x) (e : isLst x s = true) : tyV K "list" v H := by
  unfold isLst at e
  split at e
  · rename_i ds q
    obtain ⟨p, xs, rfl, hp, _⟩ := dq_lst (look_q S h q)
    exact .inl ⟨rfl, _, .of hp⟩
  · cases e
theorem d_index {ap cp : Pos} (hx : DE X cl W a g) (ha : DE X cl W e f) (hbase : attributeBase a "index" X.env (eval a X.env) = eval a X.env := by rfl)
    (hfew : ((backTo cp (starEach [e] X.env)).all (fun x => !x.1) && (backToKw cp (keywordEach [] X.env)).all (fun x => x.1.isSome) && decide (([e] : List Expr).length + ([] : List Keyword).length + (if ([] : List Keyword).isEmpty then 0 else 1) < 30)) = true := by rfl)
    (hline : (ap.endLine == cp.line) = true := by rfl) (hs : starEach [e] X.env = (false, eval e X.env) :: starEach [] X.env := by rfl) (hplain : (backTo cp (starEach [] X.env)).any (·.1) = false := by rfl) :
    DE X cl W (.Call (.Attribute a "index" ap) [e] [] cp) (fIndex g f) := by
  refine pe_imp (pe_bm PySem.F.plainAttrs_list PySem.F.slot_list_index PySem.F.type_list_index mt_index hx (pa_cons ha pa_nil hs) hbase hfew hline hs hplain) fun σ H Q ⟨G, s, S, q⟩ => ?_
  refine ⟨G, s, S, out_mono (out_bind q) fun x G1 s1 H1 st1 S1 k v rr => ?_⟩
  split at k
  rotate_left
  · exact k.elim
  rename_i hl
  refine ⟨isLst_ty S1 rr hl, G1, s1, S1, out_mono (out_bind k) fun r G2 s2 H2 st2 S2 k2 u ru => ?_⟩
  have rr2 := rr.mono st2
  split at k2
  · rename_i ds d e1 e2
    split at k2
    · rename_i j ej
      obtain ⟨p, xs, rfl, hp, hd⟩ := dq_lst (look_q S2 rr2 e1)
      have hu := look_q S2 ru e2
      unfold idxO at ej
      split at ej
      rotate_left
      · cases ej
      rename_i hf
      rw [Bool.and_eq_true] at hf
      have hu' : Rp X.K G2 u d := by
        cases d with
        | list _ => cases hf.2
        | _ => exact hu
      obtain ⟨hj, h3, h4⟩ := List.findIdx?_eq_some_iff_getElem.mp ej
      have hxl := dps_len hd
      have fl : ∀ z ∈ xs, flatV z = true := fun z hz => by
        obtain ⟨m, hm, rfl⟩ := List.mem_iff_getElem.mp hz
        obtain ⟨d', e', r'⟩ := dps_get hd (List.getElem?_eq_getElem hm)
        exact flat_v r' (List.all_eq_true.mp hf.1 _ (List.mem_of_getElem? e'))
      have ev : ∀ (m : Nat) (z : V), xs[m]? = some z → ∃ d', ds[m]? = some d' ∧ eqV z u = PyData.eqv d' d := fun m z hz => by
        obtain ⟨d', e', r'⟩ := dps_get hd hz
        exact ⟨d', e', eqv_flat r' hu' (List.all_eq_true.mp hf.1 _ (List.mem_of_getElem? e')) hf.2⟩
      have hj' : j < xs.length := by omega
      obtain ⟨d1, f1, f2⟩ := ev j _ (List.getElem?_eq_getElem hj')
      rw [List.getElem?_eq_getElem hj] at f1
      cases f1
      refine ⟨p, xs, u, j, xs[j], rfl, rfl, .of hp, flat_v hu' hf.2, List.all_eq_true.mpr fl, List.getElem?_eq_getElem hj', by rw [f2]; exact h3, fun m z hm hz => ?_, k2 G2 H2 Stp.refl S2 _ (.int _)⟩
      obtain ⟨d2, g1, g2⟩ := ev m z hz
      rw [g2]
      have h5 := h4 m hm
      have hm2 : m < ds.length := by omega
      rw [List.getElem?_eq_getElem hm2] at g1
      cases g1
      simpa using h5
    · exact k2.elim
  · exact k2.elim
/-- isinstance(x, T), T a built-in class -/
def tyN : PyData → String
  | .none => "NoneType" | .bool _ => "bool" | .int _ => "int" | .str _ => "str" | .list _ => "list" | .tuple _ => "tuple" | .dict _ => "dict"
theorem ty_of {K : PySem.W.Frag} {G H : Hp} {v : V} {d : PyData} (x : Ex G H) (h : Dq K G H v d) : TyX K H v (.type (tyN d)) := by
  cases d with
  | none => cases (show Rp K G v .none from h); exact .base .non
  | bool b => obtain rfl := dq_bl h; exact .base (.bl b)
  | int b => obtain rfl := dq_int h; exact .base (.int b)
  | str b => obtain rfl := dq_str h; exact .base (.str b)
  | list ds => obtain ⟨p, xs, rfl, hp, _⟩ := dq_lst h; exact .base (.lst hp)
  | tuple ds =>
    obtain ⟨p, xs, rfl, hp, _⟩ := dq_tup x h
    rcases hp with (hp | ⟨o, hp⟩) | ⟨o, its, n, hk, hc, _⟩
    · exact .base (.tup hp)
    · exact .fTuple hp
    · exact .kTuple hk hc
  | dict kvs => cases (show Rp K G v (.dict kvs) from h)
def isN (n a : String) : Bool := n == a || (n == "int" && a == "bool")
def isT (n : String) (d : PyData) : Bool := isN n (tyN d)
def knownT (n : String) : Bool := ["int", "bool", "str", "list", "tuple"].contains n
theorem kit_tab : ∀ n ∈ ["int", "bool", "str", "list", "tuple"], ∀ a ∈ ["NoneType", "bool", "int", "str", "list", "tuple", "dict"], kitB a n = some (isN n a) := by decide +kernel
theorem kit_is {n : String} {d : PyData} (hn : knownT n = true) : kitB (tyN d) n = some (isT n d) :=
  kit_tab n (by simpa [knownT] using hn) _ (by cases d <;> simp [tyN])
def fIsi (n : String) (f : M R) : M R := bnd f fun r s => match look r s with
  | some d => .ok (.val (.bool (isT n d))) s
  | none => .stuck
theorem d_isi {n : Str} {m : String} {p p2 pos : Pos} (hn : knownT m = true) (hg : Gl X "isinstance") (hm : X.mg "isinstance" = none) (ha : DE X cl W e f) (hc : PE X (.Name n p2) (tC (.ty m)))
    (he : starEach (e :: [.Name n p2]) X.env = (false, eval e X.env) :: starEach [.Name n p2] X.env := by rfl) (he2 : starEach [.Name n p2] X.env = (false, eval (.Name n p2) X.env) :: starEach [] X.env := by rfl) (hpl : (backTo pos (starEach [.Name n p2] X.env)).any (·.1) = false := by rfl) :
    DE X cl W (.Call (.Name "isinstance" p) [e, .Name n p2] [] pos) (fIsi m f) := by
  refine pe_imp (pe_callB call_isi hg hm (by decide +kernel) (pa_cons ha (pa_cons hc pa_nil he2) he) (by decide) (by decide) he hpl) fun σ H Q ⟨G, s, S, q⟩ => ?_
  refine ⟨G, s, S, out_mono (out_bind q) fun x G1 s1 H1 st1 S1 k v rr => ?_⟩
  split at k
  · rename_i d e
    exact ⟨v, .ty m, .type (tyN d), .type m, isT m d, rfl, .ty m, ty_of S1.gh (look_q S1 rr e), kit_ty (kit_is hn), k G1 H1 Stp.refl S1 _ (.bl _)⟩
  · exact k.elim
/-- len(set(e)), ints -/
def nubI (ns : List Int) : List Int := PyProof.Rows.firstMet (fun i => ns.getD i 0) ns.length
def fLenSet (f : M R) : M R := bnd f fun r s => match look r s with
  | some (.list ds) => match intsD ds with
    | some ns => if ns.length ≤ 4000 then .ok (.val (.int (nubI ns).length)) s else .stuck
    | none => .stuck
  | _ => .stuck
theorem d_lenSet {p p2 q pos : Pos} (hcalm : X.calm = true) (hg : Gl X "len") (hm : X.mg "len" = none) (hg2 : Gl X "set") (hm2 : X.mg "set" = none) (ha : DE X cl W a f)
    (na : starEach [a] X.env = (false, eval a X.env) :: starEach [] X.env := by rfl) : DE X cl W (.Call (.Name "len" p) [.Call (.Name "set" p2) [a] [] q] [] pos) (fLenSet f) := by
  refine ⟨fun pins s σ H Q I ⟨G, st, S, h⟩ => ?_⟩
  have hc : X.A.handled = none := I.ok.hd hcalm
  refine Call_ (ld_blt I hg hm boot_len ?_)
  refine PyProof.Rows.callWith_builtin1 (PyProof.Rows.args_cons ?_ rfl) rfl rfl
  refine Call_ (ld_blt I hg2 hm2 boot_set ?_)
  have h1 : tD X.K cl W f σ H fun v H1 => ∃ (l : Addr) (ns : List Int), v = .ref l ∧ SqL X.K H1 l (ns.map V.int) ∧ ns.length ≤ 4000 ∧ Q (.int (nubI ns).length) H1 := by
    refine ⟨G, st, S, out_mono (out_bind h) fun x G1 s1 H1 st1 S1 k v rr => ?_⟩
    split at k
    · rename_i ds e1
      split at k
      · rename_i ns en
        split at k
        · rename_i hl
          obtain ⟨l, xs, rfl, hp, hd⟩ := dq_lst (look_q S1 rr e1)
          have ex := ints_rp hd en
          subst ex
          exact ⟨l, ns, rfl, .of hp, hl, k G1 H1 Stp.refl S1 _ (.int _)⟩
        · exact k.elim
      · exact k.elim
    · exact k.elim
  refine PyProof.Rows.callWith_type1 (PyProof.Rows.args_cons (thn (ha.run pins s σ H _ I h1) fun v s1 ⟨x, H1, I1, r1, q1⟩ => PyProof.Rows.args_nil ?_) na) na rfl
  obtain ⟨l, ns, rfl, hq, hl, q1⟩ := q1
  cases r1
  obtain ⟨its, r, pl, hz⟩ := I1.list hq
  have hlen : its.toArray.size = ns.length := by rw [List.size_toArray, ← r.length, List.length_map]
  refine call_set_list hc pl.isList (by simpa using intsAre_vals' r) (by rw [hlen]; unfold scanBound; omega) fun h' tk hS hk => ?_
  refine PyProof.Rows.args_nil ?_
  rw [hlen] at hS
  obtain ⟨o, es, ep, t, ho, hex, hd, _, _, _, hf, hn⟩ := hS
  have I2 : Inv X pins σ H1 { s1 with heap := h', toks := tk } := I1.kept fun b o e => hk b o (Heap.lt_size e) e
  have hnl : (nubI ns).length ≤ ns.length := PyProof.Rows.firstMet_length_le _ _
  exact call_len_set ho hex hd hf (by rw [hn]; unfold nubI at hnl; omega) ⟨.int (nubI ns).length, H1, I2.tok _, ⟨_, by rw [hn] <;> rfl⟩, q1⟩
end
end DL

/-! DL12: more statements; a def by its name -/
noncomputable section
namespace DL
open PySem L2 PyProof.Rows
open Evl (Ex)
/-- a def of the text, as its callers know it -/
def Cal (P : Program) (w : World) (K : PySem.W.Frag) (mg : Str → Option Value) (base : Heap) (cl : String → Addr) (x : Str) (k : Nat) (ps : List Str) (F : List R → Pw → FRes) : Prop :=
  ∃ (f : Addr) (fd : FuncData), FnG P w K mg base (L2.CX P w) k f fd ps (spF K cl F) ∧ mg x = some (.ref f) ∧ PySem.W.keepIn K (.ref f) = true ∧ Binds K fd ps []
/-- what the top has written of a def -/
def Wr (K : PySem.W.Frag) (mg : Str → Option Value) (x : Str) (st : Stmt) (ps : List Str) : Prop := ∃ (f : Addr) (fd : FuncData), Fun K x x st f fd ∧ mg x = some (.ref f) ∧ Binds K fd ps []
theorem cal_of {P : Program} {w : World} {K : PySem.W.Frag} {mg : Str → Option Value} {base : Heap} {cl : String → Addr} {x : Str} {k : Nat} {N ps : List Str} {st : Stmt} {p : DSt → Flow} (h : Wr K mg x st ps) (S : FnScope N ps (defScope st)) (hN : ps.length ≤ N.length)
    (hb : ∀ (f : Addr) (cdv : Value) (A : Around) (outer : List Env) (s : Shared) (H : Hp) (E : XK), RoomG k (A.deeper (envOfC x (defScope st) s.heap.objs.size f cdv)) →
      DSs (cxOf (L2.CX P w) P w K mg base N x (defScope st) f cdv A outer s H E) cl (fun cls d _ H => E cls d H) (defBody st) p) : Cal P w K mg base cl x (k + 1) ps (runF N.length ps.length p) := by
  obtain ⟨f, fd, F, g, b⟩ := h
  exact ⟨f, fd, def_ok F S hN fun cdv A outer s H E hr => hb f cdv A outer s H E hr, g, F.kp, b⟩
section
variable {X : Cx} {cl : String → Addr} {W : WX} {e a b c : Expr} {es : List Expr} {f g : M R} {fs : M (List R)} {pos : Pos} {p q : DSt → Flow}
theorem d_cal {F : List R → Pw → FRes} {k : Nat} {ps : List Str} {x : Str} {p : Pos} (h : Cal X.prog X.w X.K X.mg X.base cl x k ps F) (hr : RoomG k X.A) (hx : ∀ σ, PassesAt (L2.CX X.prog X.w) X σ (WE W σ)) (ha : DAe X cl W (e :: es) fs) (hg : Gl X x := by rfl) (hdb : (x == ("__debug__" : Str)) = false := by decide)
    (he : starEach (e :: es) X.env = (false, eval e X.env) :: starEach es X.env := by rfl) (hpl : (backTo pos (starEach es X.env)).any (·.1) = false := by rfl) : DE X cl W (.Call (.Name x p) (e :: es) [] pos) (fUser F fs) := by
  obtain ⟨f, fd, ok, g, kp, b⟩ := h
  exact d_user ok hr hg g kp b hx ha hdb he hpl
/-- x op= e, ints -/
def fAug (i : Nat) (o : Int → Int → Int) (f : M R) : DSt → Flow := fun s => match s.d[i]? with
  | some (.val (.int a)) => onRes (f s) fun r s' => match look r s' with
    | some (.int b) => if i < s'.d.length then .next (putS i (.val (.int (o a b))) s') else .stuck
    | _ => .stuck
  | _ => .stuck
theorem s_aug {i : Nat} {x : Str} {op : Operator} {o : Int → Int → Int} {pos' : Pos} (hN : X.N.Nodup) (hi : X.N[i]? = some x) (hx : Loc X.env.scope x) (he : DE X cl W e f) (ho : PIp X op (ipI o)) (hf : X.fn x = true ∨ X.env.scope.names.lookup x = some .local := by first | exact .inl rfl | exact .inr rfl | assumption) :
    DS X cl W (.AugAssign (.Name x pos') op e pos) (fAug i o f) := by
  refine ps_imp (ps_aug hN hi hx he ho hf) fun D σ H ⟨G, s, S, h⟩ => ?_
  unfold fAug at h
  split at h
  · rename_i a q
    obtain ⟨v, e1, hd⟩ := S.slot i _ q
    cases hd
    have e2 : σ[i]? = some (some (.int a)) := by
      cases z : σ[i]? with
      | none => rw [z] at e1; cases e1
      | some o => rw [z] at e1; simp at e1; rw [e1]
    refine ⟨_, e2, G, s, S, out_mono (fout_res h) fun r G1 s1 H1 st1 S1 k v rr => ?_⟩
    split at k
    · rename_i b e3
      obtain rfl := dq_int (look_q S1 rr e3)
      split at k
      · rename_i hl
        exact ⟨a, b, rfl, rfl, k G1 _ H1 (put_stp S1 st1 hl (by intro _ _ z; cases z)) (put_ok S1 hl ⟨_, rfl, .int _⟩ (by intro _ _ z; cases z))⟩
      · exact k.elim
    · exact k.elim
  · exact h.elim
/-- x[k] = e, x an own list -/
def fSetIx (i : Nat) (f g : M R) : DSt → Flow := fun s => onRes (bnd f fEsc s) fun r s1 => if isOwn i s1 then onRes (g s1) fun k s2 => match r, look k s2, s2.d[i]? with
    | .val d, some (.int n), some (.own ds) => match ixN ds.length n with
      | some j => .next (putS i (.own (ds.set j d)) s2)
      | none => .stuck
    | _, _, _ => .stuck
  else .stuck
theorem s_setIx {i : Nat} {x k : Expr} {p' : Pos} (he : DE X cl W e f) (hx : PE X x (tVar i)) (hk : DE X cl W k g)
    (ha : ∀ v, assign (.Subscript x k p') X.env v = (do
      let ov ← holding [v] (eval x X.env)
      let iv ← holding [v, ov] (eval k X.env)
      standAt p'
      holding [v, ov, iv] (setItem ov iv v)
      release [v, ov, iv] []) := by intro _; rfl)
    (hs : swapsWithSole [.Subscript x k p'] e pos.line X.env = pure false := by rfl) (hw : swappedStores [.Subscript x k p'] e X.env = pure none := by rfl) (h1 : (assignEach [.Subscript x k p'] X.env).map (·.2) = [assign (.Subscript x k p') X.env] := by rfl) :
    DS X cl W (.Assign [.Subscript x k p'] e pos) (fSetIx i f g) := by
  refine ps_imp (ps_asg he (pg_sub hx hk set_list ha) hs hw h1) fun D σ H ⟨G, s, S, h⟩ => ⟨G, s, S, ?_⟩
  refine out_mono (out_esc1 (fout_res h)) fun r G1 s1 H1 st1 S1 k v rr => ?_
  obtain ⟨G2, s2, r2, st2, S2, ar, ex, ee, k2⟩ := k v rr
  clear ee
  split at k2
  · rename_i ho
    obtain ⟨ds0, h0⟩ := isOwn_get ho
    obtain ⟨l, xs0, el, hl0, _⟩ := own_at S2 h0
    refine ⟨.ref l, el, G2, s2, S2, ?_⟩
    have k3 := fout_shift st2 k2
    refine out_mono (fout_res k3) fun kk G3 s3 H3 st3 S3 k4 u ru => ?_
    split at k4
    · rename_i d n ds e1 h1
      split at k4
      · rename_i j ej
        obtain rfl := dq_int (look_q S3 ru e1)
        obtain ⟨l2, xs, el2, hl2, hd2⟩ := own_at S3 h1
        rw [el] at el2
        cases el2
        obtain ⟨st4, S4⟩ := own_write S3 h1 el (dps_set (dp_mono st3.ex _ _ ar) j hd2)
        exact ⟨l, xs, n, j, rfl, rfl, hl2, by rw [dps_len hd2]; exact ej, k4 _ σ _ (st3.trans st4) S4⟩
      · exact k4.elim
    · exact k4.elim
  · exact k2.elim
/-- a, b = x, y -/
def fPar (i j : Nat) (fs : M (List R)) : DSt → Flow := fun s => onRes (fs s) fun rs s' => match rs with
  | [r1, r2] => if i < s'.d.length ∧ j < s'.d.length then .next (putS j (toSl r2) (putS i (toSl r1) s')) else .stuck
  | _ => .stuck
theorem ar_sl {K : PySem.W.Frag} {G H : Hp} {v : V} {r : R} (h : AR K G v r) : SlOk K G H (some v) (toSl r) := by
  cases r with
  | val d => exact ⟨v, rfl, h⟩
  | raw u => have h : v = u := h; subst h; rfl
  | ob o => exact ⟨v, rfl, h⟩
  | new ds => exact h.elim
  | slot i => exact h.elim
theorem no_own {r : R} {ds : List PyData} : toSl r ≠ .own ds := by cases r <;> exact fun h => nomatch h
theorem s_par {i j : Nat} {x y : Str} {px py pt : Pos} {kt k2 pt2} (hc : X.calm = true) (hN : X.N.Nodup) (hi : X.N[i]? = some x) (hj : X.N[j]? = some y) (hij : i ≠ j) (hx : X.env.scope.names.lookup x = some .local) (hy : X.env.scope.names.lookup y = some .local) (ha : DAe X cl W [a, b] fs)
    (hw : swappedStores [.Tuple [.Name x px, .Name y py] kt pt] (.Tuple [a, b] k2 pt2) X.env = pure (some [x, y]))
    (hs : swapsWithSole [.Tuple [.Name x px, .Name y py] kt pt] (.Tuple [a, b] k2 pt2) pos.line X.env = pure false := by rfl) :
    DS X cl W (.Assign [.Tuple [.Name x px, .Name y py] kt pt] (.Tuple [a, b] k2 pt2) pos) (fPar i j fs) := by
  refine ps_imp (ps_par hc hN hi hj hij hx hy ha hw hs) fun D σ H ⟨G, s, S, h⟩ => ⟨G, s, S, ?_⟩
  refine out_mono (fout_res h) fun rs G1 s1 H1 st1 S1 k vs hv => ?_
  split at k
  · rename_i r1 r2
    split at k
    · rename_i hl
      cases hv with
      | cons h1 h2 =>
        cases h2 with
        | cons h2 h3 =>
          cases h3
          rename_i v2 v1
          refine ⟨_, _, rfl, ?_⟩
          have S2 := put_ok S1 hl.1 (ar_sl (H := H1) h1) (fun ds a z _ => absurd z no_own)
          have st2 : Stp G s σ H G1 (putS i (toSl r1) s1) (σ.set i (some v2)) H1 := put_stp (v := _) S1 st1 hl.1 (x := toSl r1) (fun ds a z _ => absurd z no_own)
          have hl2 : j < (putS i (toSl r1) s1).d.length := by simpa [putS] using hl.2
          exact k G1 _ H1 (put_stp S2 st2 hl2 (fun ds a z _ => absurd z no_own)) (put_ok S2 hl2 (ar_sl h2) (fun ds a z _ => absurd z no_own))
    · exact k.elim
  · exact k.elim
theorem pg_or {tg : Expr} {t t' : TG} (h : PG X tg t) (h' : PG X tg t') : PG X tg (fun v σ H Q => t v σ H Q ∨ t' v σ H Q) := ⟨fun pins s σ H v u Q I r q => by
  rcases q with q | q
  · exact h.run pins s σ H v u Q I r q
  · exact h'.run pins s σ H v u Q I r q⟩
/-- a, b = e: a tuple or a list -/
def bSeq (n : Nat) (bs : Bds) : Bd := fun d s => match d with
  | .tuple ds => if ds.length = n then bs ds s else none
  | .list ds => if ds.length = n then bs ds s else none
  | _ => none
theorem g_seq {K : PySem.W.Frag} {n : Nat} {gs : TGs} {bs : Bds} {js : List Nat} (h : GsOk K gs bs js) : GOk K (fun v σ H Q => gTup K n gs v σ H Q ∨ gUnl K n gs v σ H Q) (bSeq n bs) js := by
  intro x d G s σ H s' Q S rp e k
  unfold bSeq at e
  split at e
  · rename_i ds
    exact .inl (g_tup (n := n) h x (.tuple ds) G s σ H s' Q S rp e k)
  · rename_i ds
    exact .inr (g_unl (n := n) h x (.list ds) G s σ H s' Q S rp e k)
  · cases e
end
end DL

/-! DL13: the purse: a list of a list of ints and an int, changed by the def that draws -/
noncomputable section
namespace DL
open PySem L2 PyProof.Rows
open Evl (Ex)
section
variable {K : PySem.W.Frag} {G H : Hp} {s : DSt} {σ : L2.St} {pa ca : Addr} {cells : List Int} {t : Int}
theorem pwA_ne (h : pa ≠ ca) : pwA pa ca cells t = [.ref ca, .int t] := if_neg h
theorem pwA_eq : pwA ca ca cells t = cells.map .int := if_pos rfl
theorem pw_get (S : SA K G s σ H) (e : s.w = some (pa, ca, cells, t)) : True ∧ H pa = some (.lst (pwA pa ca cells t)) ∧ H ca = some (.lst (cells.map .int)) ∧ G pa = none ∧ G ca = none := by
  have q := S.pw
  unfold PwOk at q
  rw [e] at q
  exact q
/-- the purse is written -/
theorem pw_write {H' : Hp} {cells' : List Int} {t' : Int} (S : SA K G s σ H) (e : s.w = some (pa, ca, cells, t)) (h : ∀ a, a ≠ pa → a ≠ ca → H' a = H a) (h1 : H' pa = some (.lst (pwA pa ca cells' t'))) (h2 : H' ca = some (.lst (cells'.map .int))) :
    Stp G s σ H G { s with w := some (pa, ca, cells', t') } σ H' ∧ SA K G { s with w := some (pa, ca, cells', t') } σ H' := by
  obtain ⟨q1, q2, q3, q4, q5⟩ := pw_get S e
  have po : ∀ a, POwn s.w a ↔ (a = pa ∨ a = ca) := fun a => by unfold POwn; rw [e] <;> exact Iff.rfl
  have np : ∀ i a, OwnAt s σ i a → a ≠ pa ∧ a ≠ ca := fun i a z => ⟨fun w => S.pne i a z ((po a).mpr (.inl w)), fun w => S.pne i a z ((po a).mpr (.inr w))⟩
  refine ⟨⟨Ex.refl G, fun a o hb nb => ⟨?_, rfl⟩, fun a z => .inl ?_, fun a hb => ?_, fun a z => ?_⟩, ⟨S.len, fun a u hb => ?_, fun i sl hi => ?_, S.inj, S.ownG, ⟨trivial, h1, h2, q4, q5⟩, fun i a z w => ?_⟩⟩
  · rw [h a (fun z => nb (.inr ((po a).mpr (.inl z)))) (fun z => nb (.inr ((po a).mpr (.inr z))))]; exact hb
  · rcases z with z | z
    · exact .inl z
    · exact .inr ((po a).mpr z)
  · by_cases z : a = pa
    · subst z; rw [h1]; simp
    · by_cases z2 : a = ca
      · subst z2; rw [h2]; simp
      · rw [h a z z2]; exact hb
  · exact (po a).mp z
  · rw [h a (fun z => by subst z; rw [q4] at hb; cases hb) (fun z => by subst z; rw [q5] at hb; cases hb)]
    exact S.gh a u hb
  · have q := S.slot i sl hi
    cases sl with
    | no => trivial
    | val d => exact q
    | raw v => exact q
    | ob o => exact q
    | own es =>
      obtain ⟨a, xs, e1, ha, hh⟩ := q
      have e2 : σ[i]? = some (some (.ref a)) := by
        cases z : σ[i]? with
        | none => rw [z] at e1; cases e1
        | some o => rw [z] at e1; simp at e1; rw [e1]
      obtain ⟨n1, n2⟩ := np i a ⟨⟨es, hi⟩, e2⟩
      exact ⟨a, xs, e1, by rw [h a n1 n2]; exact ha, hh⟩
  · obtain ⟨n1, n2⟩ := np i a z
    exact w.elim n1 n2
theorem raw_at {i : Nat} {v : V} (S : SA K G s σ H) (h : s.d[i]? = some (.raw v)) : σ[i]? = some (some v) := by
  have e : σ[i]?.join = some v := S.slot i _ h
  cases z : σ[i]? with
  | none => rw [z] at e; cases e
  | some o => rw [z] at e; simp at e; rw [e]
end
section
variable {X : Cx} {cl : String → Addr} {W : WX} {e a b c : Expr} {es : List Expr} {f g : M R} {fs : M (List R)} {pos : Pos} {p q : DSt → Flow}
/-- cells, turn = purse -/
def fUnP (i j k : Nat) : DSt → Flow := fun s => match s.d[i]?, s.w with
  | some (.raw (.ref p)), some (pa, ca, cells, t) => if p = pa ∧ pa ≠ ca ∧ j < s.d.length ∧ k < s.d.length then .next (putS k (.val (.int t)) (putS j (.raw (.ref ca)) s)) else .stuck
  | _, _ => .stuck
theorem s_unP {i j k : Nat} {x tg : Expr} (hx : PE X x (tVar i)) (hg : PG X tg (gUnl X.K 2 (gCons (gName j) (gCons (gName k) gNil)))) (hs : swapsWithSole [tg] x pos.line X.env = pure false := by rfl) (hw : swappedStores [tg] x X.env = pure none := by rfl)
    (h1 : (assignEach [tg] X.env).map (·.2) = [assign tg X.env] := by rfl) : DS X cl W (.Assign [tg] x pos) (fUnP i j k) := by
  refine ps_imp (ps_asg hx hg hs hw h1) fun D σ H ⟨G, s, S, h⟩ => ?_
  unfold fUnP at h
  split at h
  · rename_i p pa ca cells t e1 e2
    split at h
    · rename_i hh
      obtain ⟨rfl, q1, hj, hk⟩ := hh
      obtain ⟨_, q2, q3, q4, q5⟩ := pw_get S e2
      rw [pwA_ne q1] at q2
      refine ⟨_, raw_at S e1, p, _, rfl, .of q2, rfl, _, _, rfl, _, _, rfl, rfl, ?_⟩
      have S2 := put_ok S hj (x := .raw (.ref ca)) (v := .ref ca) rfl (fun _ _ z => nomatch z)
      have st2 : Stp G s σ H G (putS j (.raw (.ref ca)) s) (σ.set j (some (.ref ca))) H := put_stp S Stp.refl hj (fun _ _ z => nomatch z)
      have hk2 : k < (putS j (.raw (.ref ca)) s).d.length := by simpa [putS] using hk
      exact h G _ H (put_stp S2 st2 hk2 (fun _ _ z => nomatch z)) (put_ok S2 hk2 ⟨_, rfl, .int t⟩ (fun _ _ z => nomatch z))
    · exact h.elim
  · exact h.elim
/-- len(cells) -/
def fLenC (i : Nat) : M R := fun s => match s.d[i]?, s.w with
  | some (.raw (.ref c)), some (pa, ca, cells, t) => if c = ca then .ok (.val (.int cells.length)) s else .stuck
  | _, _ => .stuck
theorem d_lenC {i : Nat} {x : Expr} {p : Pos} (hx : PE X x (tVar i)) (hg : Gl X "len") (hm : X.mg "len" = none)
    (he : starEach (x :: []) X.env = (false, eval x X.env) :: starEach [] X.env := by rfl) (hpl : (backTo pos (starEach [] X.env)).any (·.1) = false := by rfl) : DE X cl W (.Call (.Name "len" p) [x] [] pos) (fLenC i) := by
  refine pe_imp (pe_callB call_len_seq hg hm (by decide +kernel) (pa_cons hx pa_nil he) (by decide) (by decide) he hpl) fun σ H Q ⟨G, s, S, h⟩ => ?_
  unfold fLenC at h
  split at h
  · rename_i p pa ca cells t e1 e2
    split at h
    · rename_i hh
      subst hh
      obtain ⟨q1, q2, q3, q4, q5⟩ := pw_get S e2
      refine ⟨_, raw_at S e1, p, _, rfl, .inl (.of q3), ?_⟩
      have := h G H Stp.refl S _ (.int _)
      rw [List.length_map]
      exact this
    · exact h.elim
  · exact h.elim
/-- cells[e] -/
def fIxC (i : Nat) (f : M R) : M R := fun s => match s.d[i]? with
  | some (.raw (.ref c)) => bnd f (fun r s' => match s'.w, look r s' with
    | some (pa, ca, cells, t), some (.int n) => if c = ca then match atI cells n with
      | some z => .ok (.val (.int z)) s'
      | none => .stuck
      else .stuck
    | _, _ => .stuck) s
  | _ => .stuck
theorem atI_map {ns : List Int} {n z : Int} (h : atI ns n = some z) : atI (ns.map V.int) n = some (V.int z) := by
  unfold atI at h ⊢
  rw [List.length_map]
  cases q : ixN ns.length n with
  | none => rw [q] at h; cases h
  | some j =>
    rw [q] at h
    have h : ns[j]? = some z := h
    show (ns.map V.int)[j]? = _
    rw [List.getElem?_map, h]
    rfl
theorem d_ixC {i : Nat} {x : Expr} (hx : PE X x (tVar i)) (ha : DE X cl W e f) (hs : PlainIx e) : DE X cl W (.Subscript x e pos) (fIxC i f) := by
  refine pe_imp (pe_ix ix_seq hx ha hs) fun σ H Q ⟨G, s, S, q⟩ => ?_
  unfold fIxC at q
  split at q
  · rename_i c e1
    refine ⟨_, raw_at S e1, G, s, S, out_mono (out_bind q) fun r G1 s1 H1 st1 S1 k v rr => ?_⟩
    split at k
    · rename_i pa ca cells t n e2 e3
      split at k
      · rename_i hh
        subst hh
        split at k
        · rename_i z ez
          obtain rfl := dq_int (look_q S1 rr e3)
          obtain ⟨q1, q2, q3, q4, q5⟩ := pw_get S1 e2
          exact .inl ⟨c, _, n, _, rfl, rfl, .of q3, atI_map ez, k G1 H1 Stp.refl S1 _ (.int z)⟩
        · exact k.elim
      · exact k.elim
    · exact k.elim
  · exact q.elim
/-- purse[1] = e -/
def fSetT (i : Nat) (f : M R) : DSt → Flow := fun s => onRes (f s) fun r s' => match s'.d[i]?, s'.w, look r s' with
  | some (.raw (.ref p)), some (pa, ca, cells, t), some (.int n) => if p = pa ∧ pa ≠ ca then .next { s' with w := some (pa, ca, cells, n) } else .stuck
  | _, _, _ => .stuck
theorem s_setT {i : Nat} {x : Expr} {j : Nat} {p1 p' : Pos} (he : DE X cl W e f) (hx : PE X x (tVar i))
    (ha : ∀ v, assign (.Subscript x (.Constant (.int 1) j p1) p') X.env v = (do
      let ov ← holding [v] (eval x X.env)
      let iv ← holding [v, ov] (eval (.Constant (.int 1) j p1) X.env)
      standAt p'
      holding [v, ov, iv] (setItem ov iv v)
      release [v, ov, iv] []) := by intro _; rfl)
    (hs : swapsWithSole [.Subscript x (.Constant (.int 1) j p1) p'] e pos.line X.env = pure false := by rfl) (hw : swappedStores [.Subscript x (.Constant (.int 1) j p1) p'] e X.env = pure none := by rfl) (h1 : (assignEach [.Subscript x (.Constant (.int 1) j p1) p'] X.env).map (·.2) = [assign (.Subscript x (.Constant (.int 1) j p1) p') X.env] := by rfl) :
    DS X cl W (.Assign [.Subscript x (.Constant (.int 1) j p1) p'] e pos) (fSetT i f) := by
  refine ps_imp (ps_asg he (pg_sub hx pe_int set_list ha) hs hw h1) fun D σ H ⟨G, s, S, h⟩ => ⟨G, s, S, ?_⟩
  refine out_mono (fout_res h) fun r G1 s1 H1 st1 S1 k v rr => ?_
  split at k
  · rename_i p pa ca cells t n e1 e2 e3
    split at k
    · rename_i hh
      obtain ⟨hh, q1⟩ := hh
      subst hh
      obtain ⟨_, q2, q3, q4, q5⟩ := pw_get S1 e2
      obtain rfl := dq_int (look_q S1 rr e3)
      rw [pwA_ne q1] at q2
      obtain ⟨st2, S2⟩ := pw_write (H' := upd H1 p (.lst [.ref ca, .int n])) (cells' := cells) (t' := n) S1 e2 (fun a n1 n2 => upd_ne n1) (by rw [pwA_ne q1]; exact upd_same) (by rw [upd_ne (Ne.symm q1)]; exact q3)
      exact ⟨_, raw_at S1 e1, p, _, 1, 1, rfl, rfl, q2, rfl, k G1 σ _ (st1.trans st2) S2⟩
    · exact k.elim
  · exact k.elim
/-- cells[k] = e -/
def fSetC (i : Nat) (f g : M R) : DSt → Flow := fun s => onRes (f s) fun r s1 => match s1.d[i]? with
  | some (.raw (.ref c)) => onRes (g s1) fun k s2 => match s2.w, look r s1, look k s2 with
    | some (pa, ca, cells, t), some (.int z), some (.int n) => if c = ca then match ixN cells.length n with
      | some j => .next { s2 with w := some (pa, ca, cells.set j z, t) }
      | none => .stuck
      else .stuck
    | _, _, _ => .stuck
  | _ => .stuck
theorem s_setC {i : Nat} {x k : Expr} {p' : Pos} (he : DE X cl W e f) (hx : PE X x (tVar i)) (hk : DE X cl W k g)
    (ha : ∀ v, assign (.Subscript x k p') X.env v = (do
      let ov ← holding [v] (eval x X.env)
      let iv ← holding [v, ov] (eval k X.env)
      standAt p'
      holding [v, ov, iv] (setItem ov iv v)
      release [v, ov, iv] []) := by intro _; rfl)
    (hs : swapsWithSole [.Subscript x k p'] e pos.line X.env = pure false := by rfl) (hw : swappedStores [.Subscript x k p'] e X.env = pure none := by rfl) (h1 : (assignEach [.Subscript x k p'] X.env).map (·.2) = [assign (.Subscript x k p') X.env] := by rfl) :
    DS X cl W (.Assign [.Subscript x k p'] e pos) (fSetC i f g) := by
  refine ps_imp (ps_asg he (pg_sub hx hk set_list ha) hs hw h1) fun D σ H ⟨G, s, S, h⟩ => ⟨G, s, S, ?_⟩
  refine out_mono (fout_res h) fun r G1 s1 H1 st1 S1 k v rr => ?_
  split at k
  · rename_i c e1
    refine ⟨_, raw_at S1 e1, G1, s1, S1, ?_⟩
    have k3 := fout_shift st1 k
    refine out_mono (fout_res k3) fun kk G3 s3 H3 st3 S3 k4 u ru => ?_
    split at k4
    · rename_i pa ca cells t z n e2 e3 e4
      split at k4
      · rename_i hh
        subst hh
        split at k4
        · rename_i j ej
          obtain ⟨q1, q2, q3, q4, q5⟩ := pw_get S3 e2
          obtain rfl := dq_int (look_q S1 rr e3)
          obtain rfl := dq_int (look_q S3 ru e4)
          obtain ⟨st4, S4⟩ := pw_write (H' := upd H3 c (.lst ((cells.map V.int).set j (.int z)))) (cells' := cells.set j z) (t' := t) S3 e2 (fun a n1 n2 => upd_ne n2) (by
            by_cases z : pa = c
            · rw [z, upd_same, pwA_eq, List.map_set]
            · rw [upd_ne z, pwA_ne z]; rw [pwA_ne z] at q2; exact q2) (by rw [upd_same, List.map_set])
          exact ⟨c, _, n, j, rfl, rfl, q3, by rw [List.length_map]; exact ej, k4 _ σ _ (st3.trans st4) S4⟩
        · exact k4.elim
      · exact k4.elim
    · exact k4.elim
  · exact k.elim
end
end DL

/-! DL14: the purse made; a law -/
noncomputable section
namespace DL
open PySem L2 PyProof.Rows
open Evl (Ex)
/-- what a purse is made of -/
def spPurse (K : PySem.W.Frag) : Sp := fun vs H Q _ => ∃ (a : Addr) (ns : List Int), vs = [.ref a] ∧ SqL K H a (ns.map V.int) ∧ ns.length ≤ 63 ∧
  ∀ (pa ca : Addr) (cells : List Int) (H' : Hp), pa ≠ ca → H pa = none → H ca = none → Ex H H' → H' pa = some (.lst [.ref ca, .int 0]) → H' ca = some (.lst (cells.map V.int)) → cells ≠ [] → cells.length ≤ 63 → Q (.ref pa) H'
def spLaw (K : PySem.W.Frag) : Sp := fun vs H Q _ => ∃ (a : Addr) (ns : List Int), vs = [.ref a] ∧ SqL K H a (ns.map V.int) ∧ ns.length ≤ 63 ∧ ∀ H', Q (.bl true) H'
section
variable {P : Program} {w : World} {K : PySem.W.Frag} {mg : Str → Option Value} {base : Heap} {cl : String → Addr}
def CalS (P : Program) (w : World) (K : PySem.W.Frag) (mg : Str → Option Value) (base : Heap) (x : Str) (k : Nat) (ps : List Str) (sp : Sp) : Prop :=
  ∃ (f : Addr) (fd : FuncData), FnG P w K mg base (L2.CX P w) k f fd ps sp ∧ mg x = some (.ref f) ∧ PySem.W.keepIn K (.ref f) = true ∧ Binds K fd ps []
/-- the def that makes the purse: its first row by hand (the script's slice), the rest on data -/
theorem purse_ok {st s1 : Stmt} {rest : List Stmt} {x : Str} {N : List Str} {k : Nat} {p : DSt → Flow} {arg : Str} (h : Wr K mg x st [arg]) (S : FnScope N [arg] (defScope st)) (hN : 2 ≤ N.length) (hbody : defBody st = s1 :: rest)
    (hb : ∀ (f : Addr) (cdv : Value) (A : Around) (outer : List Env) (s : Shared) (H : Hp) (E : XK), RoomG k (A.deeper (envOfC x (defScope st) s.heap.objs.size f cdv)) →
      PS (cxOf (L2.CX P w) P w K mg base N x (defScope st) f cdv A outer s H E) s1 (tAsg (tSl (rSlL K) (tVar 0) tNoPart (tPart (tC (.int 63)))) (gName 1)) ∧
      DSs (cxOf (L2.CX P w) P w K mg base N x (defScope st) f cdv A outer s H E) cl (fun cls d _ H => E cls d H) rest p)
    (hp : ∀ (a : Addr) (ns : List Int), ns.length ≤ 63 → ∃ (cells : List Int) (s' : DSt), p ⟨.raw (.ref a) :: .own (ns.map .int) :: List.replicate (N.length - 2) .no, none⟩ = .ret (.new [.list (cells.map .int), .int 0]) s' ∧ cells ≠ [] ∧ cells.length ≤ 63) :
    CalS P w K mg base x (k + 1) [arg] (spPurse K) := by
  obtain ⟨f, fd, F, g, b⟩ := h
  refine ⟨f, fd, okG F S (fun vs H Q E h => ?_) (fun cdv A outer s H vs Q E hr h => ?_), g, F.kp, b⟩
  · obtain ⟨a, ns, rfl, _⟩ := h; rfl
  · obtain ⟨h1, h2⟩ := hb f cdv A outer s H E hr
    refine ⟨_, by rw [hbody]; exact pss_cons h1 h2, ?_⟩
    obtain ⟨a, ns, rfl, hs, hl, q⟩ := h
    have hst : L2.start N [V.ref a] = some (.ref a) :: none :: List.replicate (N.length - 2) none := by
      show [some (V.ref a)] ++ List.replicate (N.length - 1) none = _
      have : N.length - 1 = (N.length - 2) + 1 := by omega
      rw [this, List.replicate_succ]
      rfl
    have hcut : cutV (ns.map V.int) none (some 63) = ns.map V.int := by
      unfold cutV
      have e1 : HT.sIx (ns.map V.int).length 0 none = 0 := rfl
      have e2 : HT.sIx (ns.map V.int).length (ns.map V.int).length (some 63) = (ns.map V.int).length := by
        unfold HT.sIx
        simp
        omega
      rw [e1, e2]
      simp only [List.drop_zero, Nat.sub_zero]
      exact List.take_length
    rw [hst]
    show tSl (rSlL K) (tVar 0) tNoPart (tPart (tC (.int 63))) _ H _
    refine ⟨_, rfl, 63, rfl, a, _, rfl, hs, fun p0 hp0 => ?_⟩
    rw [hcut]
    obtain ⟨cells, s', hp1, hne, hlen⟩ := hp a ns hl
    obtain ⟨H1, eH1⟩ : ∃ H1, H1 = upd H p0 (.lst (ns.map V.int)) := ⟨_, rfl⟩
    have hH1 : H1 p0 = some (.lst (ns.map V.int)) := by rw [eH1, upd_same]
    have own0 : ∀ (i : Nat) (c : Addr), OwnAt ⟨.raw (.ref a) :: .own (ns.map .int) :: List.replicate (N.length - 2) .no, none⟩ (some (.ref a) :: some (.ref p0) :: List.replicate (N.length - 2) none) i c → i = 1 ∧ c = p0 := by
      rintro i c ⟨⟨ds, e⟩, e2⟩
      match i with
      | 0 => cases e
      | 1 => simp at e2; exact ⟨rfl, e2.symm⟩
      | i + 2 =>
        simp only [List.getElem?_cons_succ, List.getElem?_replicate] at e
        split at e <;> cases e
    have S0 : SA K (fun _ => none) ⟨.raw (.ref a) :: .own (ns.map .int) :: List.replicate (N.length - 2) .no, none⟩ (some (.ref a) :: some (.ref p0) :: List.replicate (N.length - 2) none) H1 := by
      refine ⟨by simp, fun _ _ z => (by cases z), fun i sl e => ?_, fun i j c z1 z2 => (own0 i c z1).1.trans (own0 j c z2).1.symm, fun _ _ _ => rfl, trivial, fun _ _ _ z => z⟩
      match i with
      | 0 => cases e; rfl
      | 1 => cases e; exact ⟨p0, _, rfl, hH1, rp_ints ns⟩
      | i + 2 =>
        simp only [List.getElem?_cons_succ, List.getElem?_replicate] at e
        split at e
        · cases e; trivial
        · cases e
    rw [← eH1]
    refine ⟨_, _, S0, ?_⟩
    rw [hp1]
    intro v G' σ' H' st S' rr
    obtain ⟨pa, xs, rfl, hpa, hd, hg, h0, hn⟩ := rr
    cases hd with
    | cons r1 r2 =>
      cases r2 with
      | cons r2 r3 =>
        cases r3
        cases r2
        cases r1 with
        | lst hca hcs =>
          rename_i ca ys
          have ey : ys = cells.map V.int := ints_rp hcs (by simp)
          subst ey
          have free : ∀ c, H1 c = none → H c = none := fun c z => by
            rw [eH1] at z
            by_cases e : c = p0
            · subst e; rw [upd_same] at z; cases z
            · rw [upd_ne e] at z; exact z
          have hcn : H ca = none := by
            by_cases e : ca = p0
            · subst e; exact hp0
            · refine free ca (Classical.byContradiction fun nz => ?_)
              obtain ⟨o, ho⟩ := Option.ne_none_iff_exists'.mp nz
              have nown : ¬ Own ⟨.raw (.ref a) :: .own (ns.map .int) :: List.replicate (N.length - 2) .no, none⟩ (some (.ref a) :: some (.ref p0) :: List.replicate (N.length - 2) none) ca := by
                rintro (⟨i, z⟩ | z)
                · exact e (own0 i ca z).2
                · exact z
              rw [(st.keep ca o ho nown).2] at hca
              cases hca
          have ne : pa ≠ ca := fun e => by subst e; rw [hg] at hca; cases hca
          refine q pa ca cells H' ne (free pa h0) hcn (fun c o hc => ?_) hpa (S'.gh _ _ hca) hne hlen
          have nc : c ≠ p0 := fun e => by subst e; rw [hp0] at hc; cases hc
          refine (st.keep c o (by rw [eH1, upd_ne nc]; exact hc) ?_).1
          rintro (⟨i, z⟩ | z)
          · exact nc (own0 i c z).2
          · exact z
/-- a law: the purse is made first, the rest on data -/
theorem law_ok {st s1 : Stmt} {rest : List Stmt} {x : Str} {N : List Str} {k : Nat} {p : DSt → Flow} {arg : Str} {i : Nat} {f : Addr} {fd : FuncData} (F : Fun K x x st f fd) (S : FnScope N [arg] (defScope st)) (hi : i < N.length) (hi0 : 0 < i) (hbody : defBody st = s1 :: rest)
    (hb : ∀ (f : Addr) (cdv : Value) (A : Around) (outer : List Env) (s : Shared) (H : Hp) (E : XK), RoomG k (A.deeper (envOfC x (defScope st) s.heap.objs.size f cdv)) →
      PS (cxOf (L2.CX P w) P w K mg base N x (defScope st) f cdv A outer s H E) s1 (tAsg (tCallS (spPurse K) (WE fun cls d _ H => E cls d H) (tCons (tVar 0) tNil)) (gName i)) ∧
      DSs (cxOf (L2.CX P w) P w K mg base N x (defScope st) f cdv A outer s H E) cl (fun cls d _ H => E cls d H) rest p)
    (hp : ∀ (a pa ca : Addr) (cells : List Int), pa ≠ ca → cells ≠ [] → cells.length ≤ 63 → ∃ s', p ⟨(Sl.raw (.ref a) :: List.replicate (N.length - 1) Sl.no).set i (.raw (.ref pa)), some (pa, ca, cells, 0)⟩ = .ret (.val (.bool true)) s') :
    FnG P w K mg base (L2.CX P w) (k + 1) f fd [arg] (spLaw K) := by
  refine okG F S (fun vs H Q E h => ?_) (fun cdv A outer s H vs Q E hr h => ?_)
  · obtain ⟨a, ns, rfl, _⟩ := h; rfl
  · obtain ⟨h1, h2⟩ := hb f cdv A outer s H E hr
    refine ⟨_, by rw [hbody]; exact pss_cons h1 h2, ?_⟩
    obtain ⟨a, ns, rfl, hs, hl, q⟩ := h
    refine ⟨_, rfl, a, ns, rfl, hs, hl, fun pa ca cells H' ne h1 h2 ex hpa hca hne hlen => ?_⟩
    obtain ⟨s', hp1⟩ := hp a pa ca cells ne hne hlen
    have hst : L2.start N [V.ref a] = some (.ref a) :: List.replicate (N.length - 1) none := rfl
    have noown : ∀ (j : Nat) (c : Addr), ¬ OwnAt ⟨(Sl.raw (.ref a) :: List.replicate (N.length - 1) Sl.no).set i (.raw (.ref pa)), some (pa, ca, cells, 0)⟩ ((L2.start N [V.ref a]).set i (some (.ref pa))) j c := by
      rintro j c ⟨⟨ds, e⟩, _⟩
      rw [List.getElem?_set] at e
      split at e
      · split at e <;> cases e
      · match j with
        | 0 => cases e
        | j + 1 =>
          simp only [List.getElem?_cons_succ, List.getElem?_replicate] at e
          split at e <;> cases e
    refine ⟨fun _ => none, ⟨(Sl.raw (.ref a) :: List.replicate (N.length - 1) Sl.no).set i (.raw (.ref pa)), some (pa, ca, cells, 0)⟩, ⟨?_, fun _ _ z => (by cases z), fun j sl e => ?_, fun j _ c z => (noown j c z).elim, fun j c z => (noown j c z).elim, ⟨trivial, by rw [pwA_ne ne]; exact hpa, hca, rfl, rfl⟩, fun j c z => (noown j c z).elim⟩, ?_⟩
    · rw [hst]; simp
    · rw [List.getElem?_set] at e
      rw [hst]
      split at e
      · rename_i hj
        subst hj
        split at e
        · cases e
          show ((some (V.ref a) :: List.replicate (N.length - 1) none).set i (some (.ref pa)))[i]?.join = _
          rw [List.getElem?_set_self (by simp; omega)]
          rfl
        · cases e
      · rename_i hj
        match j with
        | 0 =>
          cases e
          show ((some (V.ref a) :: List.replicate (N.length - 1) none).set i (some (.ref pa)))[0]?.join = _
          rw [List.getElem?_set_ne hj]
          rfl
        | j + 1 =>
          simp only [List.getElem?_cons_succ, List.getElem?_replicate] at e
          split at e
          · cases e; trivial
          · cases e
    · show FOut K cl _ _ _ _ _ (p _) _
      rw [hp1]
      intro v G' σ' H2 st' S' rr
      cases rr
      exact q H2
end
end DL

/-! DL15: reckoning on data: what each piece does, as rows for simp -/
noncomputable section
namespace DL
open PySem L2
def andThen (x : Flow) (q : DSt → Flow) : Flow := match x with
  | .next s => q s
  | x => x
theorem inB_of {j : Int} (h1 : -1000000000 ≤ j) (h2 : j ≤ 1000000000) : inB j := ⟨by omega, by omega⟩
theorem inW_of {j : Int} (h1 : -1000000000 ≤ j) (h2 : j ≤ 1000000000) : inW j := ⟨by omega, by omega⟩
@[simp] theorem inB_lit {k : Nat} (h : k ≤ 1000000000) : inB (no_index (OfNat.ofNat k)) := ⟨by
  show -(2 ^ 62) ≤ (k : Int)
  omega, by
  show (k : Int) < 2 ^ 62
  omega⟩
@[simp] theorem inW_lit {k : Nat} (h : k ≤ 1000000000) : inW (no_index (OfNat.ofNat k)) := ⟨by
  show -(2 ^ 63) ≤ (k : Int)
  omega, by
  show (k : Int) < 2 ^ 63
  omega⟩
@[simp] theorem size_le {n : Nat} (h : n ≤ 100000) : leS n := Nat.le_trans h (by decide)
@[simp] theorem size_lt {n : Nat} (h : n ≤ 100000) : ltS n := Nat.lt_of_le_of_lt h (by decide)
@[simp] theorem at_next {s : DSt} {q : DSt → Flow} : andThen (.next s) q = q s := Eq.trans rfl rfl
@[simp] theorem at_ret {r : R} {s : DSt} {q : DSt → Flow} : andThen (.ret r s) q = .ret r s := Eq.trans rfl rfl
@[simp] theorem at_brk {s : DSt} {q : DSt → Flow} : andThen (.brk s) q = .brk s := Eq.trans rfl rfl
@[simp] theorem at_cnt {s : DSt} {q : DSt → Flow} : andThen (.cnt s) q = .cnt s := Eq.trans rfl rfl
@[simp] theorem at_err {z : Exn} {s : DSt} {q : DSt → Flow} : andThen (.err z s) q = .err z s := Eq.trans rfl rfl
@[simp] theorem at_stuck {q : DSt → Flow} : andThen .stuck q = .stuck := Eq.trans rfl rfl
def onF (x : FRes) (s : DSt) : Res R := match x with
  | .ok r w => .ok r ⟨s.d, w⟩
  | .err z w => .err z ⟨s.d, w⟩
  | .stuck => .stuck
@[simp] theorem onF_ok {r : R} {w : Pw} {s : DSt} : onF (.ok r w) s = .ok r ⟨s.d, w⟩ := Eq.trans rfl rfl
@[simp] theorem onF_err {r : Exn} {w : Pw} {s : DSt} : onF (.err r w) s = .err r ⟨s.d, w⟩ := Eq.trans rfl rfl
def finF (x : Flow) : FRes := match x with
  | .next s => .ok (.val .none) s.w
  | .ret r s => (match finR r s with | some r' => .ok r' s.w | none => .stuck)
  | .err z s => .err z s.w
  | _ => .stuck
@[simp] theorem finF_next {s : DSt} : finF (.next s) = .ok (.val .none) s.w := Eq.trans rfl rfl
@[simp] theorem finF_ret {r : R} {s : DSt} : finF (.ret r s) = (match finR r s with | some r' => .ok r' s.w | none => .stuck) := Eq.trans rfl rfl
@[simp] theorem finF_err {r : Exn} {s : DSt} : finF (.err r s) = .err r s.w := Eq.trans rfl rfl
/-! continuations by name: simp does not run ahead into them -/
def kOp (o : R → R → M R) (g : M R) (x : R) (s : DSt) : Res R := (g s).bind (o x)
@[simp] theorem y_kOp (o : R → R → M R) (g : M R) (x : R) (s : DSt) : kOp o g x s = ((g s).bind (o x)) := Eq.trans rfl rfl
def kB  (r : R) (s : DSt) : Res Bool := match look r s with | some (.bool b) => .ok b s | _ => .stuck
@[simp] theorem y_kB  (r : R) (s : DSt) : kB  r s = (match look r s with | some (.bool b) => .ok b s | _ => .stuck) := Eq.trans rfl rfl
def kAnd (u : M Bool) (b : Bool) (s : DSt) : Res Bool := if b = true then u s else .ok false s
@[simp] theorem y_kAnd (u : M Bool) (b : Bool) (s : DSt) : kAnd u b s = (if b = true then u s else .ok false s) := Eq.trans rfl rfl
def kOr (u : M Bool) (b : Bool) (s : DSt) : Res Bool := if b = true then .ok true s else u s
@[simp] theorem y_kOr (u : M Bool) (b : Bool) (s : DSt) : kOr u b s = (if b = true then .ok true s else u s) := Eq.trans rfl rfl
def kNot  (b : Bool) (s : DSt) : Res Bool := .ok (!b) s
@[simp] theorem y_kNot  (b : Bool) (s : DSt) : kNot  b s = (.ok (!b) s) := Eq.trans rfl rfl
def kV  (b : Bool) (s : DSt) : Res R := .ok (.val (.bool b)) s
@[simp] theorem y_kV  (b : Bool) (s : DSt) : kV  b s = (.ok (.val (.bool b)) s) := Eq.trans rfl rfl
def kAndV (g : M R) (b : Bool) (s : DSt) : Res R := if b = true then g s else .ok (.val (.bool false)) s
@[simp] theorem y_kAndV (g : M R) (b : Bool) (s : DSt) : kAndV g b s = (if b = true then g s else .ok (.val (.bool false)) s) := Eq.trans rfl rfl
def kOrV (g : M R) (b : Bool) (s : DSt) : Res R := if b = true then .ok (.val (.bool true)) s else g s
@[simp] theorem y_kOrV (g : M R) (b : Bool) (s : DSt) : kOrV g b s = (if b = true then .ok (.val (.bool true)) s else g s) := Eq.trans rfl rfl
def kIf (f g : M R) (b : Bool) (s : DSt) : Res R := if b = true then f s else g s
@[simp] theorem y_kIf (f g : M R) (b : Bool) (s : DSt) : kIf f g b s = (if b = true then f s else g s) := Eq.trans rfl rfl
def kCons3 (r : R) (rs : List R) (s : DSt) : Res (List R) := .ok (r :: rs) s
@[simp] theorem y_kCons3 (r : R) (rs : List R) (s : DSt) : kCons3 r rs s = (.ok (r :: rs) s) := Eq.trans rfl rfl
def kCons2 (fs : M (List R)) (r : R) (s : DSt) : Res (List R) := (fs s).bind (kCons3 r)
@[simp] theorem y_kCons2 (fs : M (List R)) (r : R) (s : DSt) : kCons2 fs r s = ((fs s).bind (kCons3 r)) := Eq.trans rfl rfl
def kCons (fs : M (List R)) (r : R) (s : DSt) : Res (List R) := (fEsc r s).bind (kCons2 fs)
@[simp] theorem y_kCons (fs : M (List R)) (r : R) (s : DSt) : kCons fs r s = ((fEsc r s).bind (kCons2 fs)) := Eq.trans rfl rfl
def kLst  (rs : List R) (s : DSt) : Res R := match datas rs with | some ds => if leS ds.length then .ok (.new ds) s else .stuck | none => .stuck
@[simp] theorem y_kLst  (rs : List R) (s : DSt) : kLst  rs s = (match datas rs with | some ds => if leS ds.length then .ok (.new ds) s else .stuck | none => .stuck) := Eq.trans rfl rfl
def kTup  (rs : List R) (s : DSt) : Res R := match datas rs with | some ds => if leS ds.length then .ok (.val (.tuple ds)) s else .stuck | none => .stuck
@[simp] theorem y_kTup  (rs : List R) (s : DSt) : kTup  rs s = (match datas rs with | some ds => if leS ds.length then .ok (.val (.tuple ds)) s else .stuck | none => .stuck) := Eq.trans rfl rfl
def kPart  (r : R) (s : DSt) : Res (Option Int) := match look r s with | some (.int i) => .ok (some i) s | _ => .stuck
@[simp] theorem y_kPart  (r : R) (s : DSt) : kPart  r s = (match look r s with | some (.int i) => .ok (some i) s | _ => .stuck) := Eq.trans rfl rfl
def kSl3 (x : R) (lo : Option Int) (hi : Option Int) (s : DSt) : Res R := match look x s with | some d => (match sliceO d lo hi with | some (.slot _) => .stuck | some r => .ok r s | none => .stuck) | none => .stuck
@[simp] theorem y_kSl3 (x : R) (lo : Option Int) (hi : Option Int) (s : DSt) : kSl3 x lo hi s = (match look x s with | some d => (match sliceO d lo hi with | some (.slot _) => .stuck | some r => .ok r s | none => .stuck) | none => .stuck) := Eq.trans rfl rfl
def kSl2 (b : M (Option Int)) (x : R) (lo : Option Int) (s : DSt) : Res R := (b s).bind (kSl3 x lo)
@[simp] theorem y_kSl2 (b : M (Option Int)) (x : R) (lo : Option Int) (s : DSt) : kSl2 b x lo s = ((b s).bind (kSl3 x lo)) := Eq.trans rfl rfl
def kSl1 (a b : M (Option Int)) (x : R) (s : DSt) : Res R := (a s).bind (kSl2 b x)
@[simp] theorem y_kSl1 (a b : M (Option Int)) (x : R) (s : DSt) : kSl1 a b x s = ((a s).bind (kSl2 b x)) := Eq.trans rfl rfl
def kIsN (b : Bool) (r : R) (s : DSt) : Res R := match isNR r s with | some c => .ok (.val (.bool (if b then !c else c))) s | none => .stuck
@[simp] theorem y_kIsN (b : Bool) (r : R) (s : DSt) : kIsN b r s = (match isNR r s with | some c => .ok (.val (.bool (if b then !c else c))) s | none => .stuck) := Eq.trans rfl rfl
def kDrop  (r : R) (s : DSt) : Flow := .next s
@[simp] theorem y_kDrop  (r : R) (s : DSt) : kDrop  r s = (.next s) := Eq.trans rfl rfl
def kIfS (p q : DSt → Flow) (b : Bool) (s : DSt) : Flow := if b = true then p s else q s
@[simp] theorem y_kIfS (p q : DSt → Flow) (b : Bool) (s : DSt) : kIfS p q b s = (if b = true then p s else q s) := Eq.trans rfl rfl
def kSet (i : Nat) (r : R) (s : DSt) : Flow := if i < s.d.length then (match store i r s with | some s2 => .next s2 | none => .stuck) else .stuck
@[simp] theorem y_kSet (i : Nat) (r : R) (s : DSt) : kSet i r s = (if i < s.d.length then (match store i r s with | some s2 => .next s2 | none => .stuck) else .stuck) := Eq.trans rfl rfl
def kUser (F : List R → Pw → FRes) (rs : List R) (s : DSt) : Res R := onF (F rs s.w) s
@[simp] theorem y_kUser (F : List R → Pw → FRes) (rs : List R) (s : DSt) : kUser F rs s = (onF (F rs s.w) s) := Eq.trans rfl rfl
def kCall (o : List PyData → Option R) (rs : List R) (s : DSt) : Res R := match looks rs s with | some ds => (match o ds with | some (.slot _) => .stuck | some r => .ok r s | none => .stuck) | none => .stuck
@[simp] theorem y_kCall (o : List PyData → Option R) (rs : List R) (s : DSt) : kCall o rs s = (match looks rs s with | some ds => (match o ds with | some (.slot _) => .stuck | some r => .ok r s | none => .stuck) | none => .stuck) := Eq.trans rfl rfl
def kIsi (m : String) (r : R) (s : DSt) : Res R := match look r s with | some d => .ok (.val (.bool (isT m d))) s | none => .stuck
@[simp] theorem y_kIsi (m : String) (r : R) (s : DSt) : kIsi m r s = (match look r s with | some d => .ok (.val (.bool (isT m d))) s | none => .stuck) := Eq.trans rfl rfl
def kLenSet  (r : R) (s : DSt) : Res R := match look r s with | some (.list ds) => (match intsD ds with | some ns => if ns.length ≤ 4000 then .ok (.val (.int (nubI ns).length)) s else .stuck | none => .stuck) | _ => .stuck
@[simp] theorem y_kLenSet  (r : R) (s : DSt) : kLenSet  r s = (match look r s with | some (.list ds) => (match intsD ds with | some ns => if ns.length ≤ 4000 then .ok (.val (.int (nubI ns).length)) s else .stuck | none => .stuck) | _ => .stuck) := Eq.trans rfl rfl
def kIdx2 (x : R) (r : R) (s : DSt) : Res R := match look x s, look r s with | some (.list ds), some d => (match idxO ds d with | some j => .ok (.val (.int (j : Nat))) s | none => .stuck) | _, _ => .stuck
@[simp] theorem y_kIdx2 (x : R) (r : R) (s : DSt) : kIdx2 x r s = (match look x s, look r s with | some (.list ds), some d => (match idxO ds d with | some j => .ok (.val (.int (j : Nat))) s | none => .stuck) | _, _ => .stuck) := Eq.trans rfl rfl
def kIdx (f : M R) (x : R) (s : DSt) : Res R := if isLst x s = true then (f s).bind (kIdx2 x) else .stuck
@[simp] theorem y_kIdx (f : M R) (x : R) (s : DSt) : kIdx f x s = (if isLst x s = true then (f s).bind (kIdx2 x) else .stuck) := Eq.trans rfl rfl
def kApp2 (i : Nat) (r : R) (s : DSt) : Res R := match r, s.d[i]? with | .val d, some (.own ds) => if ltS ds.length then .ok (.val .none) (putS i (.own (ds ++ [d])) s) else .stuck | _, _ => .stuck
@[simp] theorem y_kApp2 (i : Nat) (r : R) (s : DSt) : kApp2 i r s = (match r, s.d[i]? with | .val d, some (.own ds) => if ltS ds.length then .ok (.val .none) (putS i (.own (ds ++ [d])) s) else .stuck | _, _ => .stuck) := Eq.trans rfl rfl
def kApp1 (i : Nat) (r : R) (s : DSt) : Res R := (fEsc r s).bind (kApp2 i)
@[simp] theorem y_kApp1 (i : Nat) (r : R) (s : DSt) : kApp1 i r s = ((fEsc r s).bind (kApp2 i)) := Eq.trans rfl rfl
def kPopAt (i : Nat) (r : R) (s : DSt) : Res R := match look r s, s.d[i]? with | some (.int k), some (.own ds) => (match ixN ds.length k with | some j => (match ds[j]? with | some d => if inW k then .ok (.val d) (putS i (.own (ds.eraseIdx j)) s) else .stuck | none => .stuck) | none => .stuck) | _, _ => .stuck
@[simp] theorem y_kPopAt (i : Nat) (r : R) (s : DSt) : kPopAt i r s = (match look r s, s.d[i]? with | some (.int k), some (.own ds) => (match ixN ds.length k with | some j => (match ds[j]? with | some d => if inW k then .ok (.val d) (putS i (.own (ds.eraseIdx j)) s) else .stuck | none => .stuck) | none => .stuck) | _, _ => .stuck) := Eq.trans rfl rfl
def kIns (i : Nat) (rs : List R) (s : DSt) : Res R := match rs, s.d[i]? with | [.val (.int k), .val d], some (.own ds) => if 0 ≤ k ∧ inW k ∧ ltS ds.length then .ok (.val .none) (putS i (.own (ds.take k.toNat ++ [d] ++ ds.drop k.toNat)) s) else .stuck | _, _ => .stuck
@[simp] theorem y_kIns (i : Nat) (rs : List R) (s : DSt) : kIns i rs s = (match rs, s.d[i]? with | [.val (.int k), .val d], some (.own ds) => if 0 ≤ k ∧ inW k ∧ ltS ds.length then .ok (.val .none) (putS i (.own (ds.take k.toNat ++ [d] ++ ds.drop k.toNat)) s) else .stuck | _, _ => .stuck) := Eq.trans rfl rfl
def kRem (i : Nat) (r : R) (s : DSt) : Res R := match look r s, s.d[i]? with | some (.int k), some (.own ds) => (match intsD ds with | some ns => (match ns.findIdx? (· == k) with | some j => .ok (.val .none) (putS i (.own ((ns.eraseIdx j).map .int)) s) | none => .stuck) | none => .stuck) | _, _ => .stuck
@[simp] theorem y_kRem (i : Nat) (r : R) (s : DSt) : kRem i r s = (match look r s, s.d[i]? with | some (.int k), some (.own ds) => (match intsD ds with | some ns => (match ns.findIdx? (· == k) with | some j => .ok (.val .none) (putS i (.own ((ns.eraseIdx j).map .int)) s) | none => .stuck) | none => .stuck) | _, _ => .stuck) := Eq.trans rfl rfl
def kAug (i : Nat) (o : Int → Int → Int) (a : Int) (r : R) (s : DSt) : Flow := match look r s with | some (.int b) => if i < s.d.length then .next (putS i (.val (.int (o a b))) s) else .stuck | _ => .stuck
@[simp] theorem y_kAug (i : Nat) (o : Int → Int → Int) (a : Int) (r : R) (s : DSt) : kAug i o a r s = (match look r s with | some (.int b) => if i < s.d.length then .next (putS i (.val (.int (o a b))) s) else .stuck | _ => .stuck) := Eq.trans rfl rfl
def kSetIx2 (i : Nat) (r : R) (k : R) (s : DSt) : Flow := match r, look k s, s.d[i]? with | .val d, some (.int n), some (.own ds) => (match ixN ds.length n with | some j => .next (putS i (.own (ds.set j d)) s) | none => .stuck) | _, _, _ => .stuck
@[simp] theorem y_kSetIx2 (i : Nat) (r : R) (k : R) (s : DSt) : kSetIx2 i r k s = (match r, look k s, s.d[i]? with | .val d, some (.int n), some (.own ds) => (match ixN ds.length n with | some j => .next (putS i (.own (ds.set j d)) s) | none => .stuck) | _, _, _ => .stuck) := Eq.trans rfl rfl
def kSetIx (i : Nat) (g : M R) (r : R) (s : DSt) : Flow := if isOwn i s = true then onRes (g s) (kSetIx2 i r) else .stuck
@[simp] theorem y_kSetIx (i : Nat) (g : M R) (r : R) (s : DSt) : kSetIx i g r s = (if isOwn i s = true then onRes (g s) (kSetIx2 i r) else .stuck) := Eq.trans rfl rfl
def kPar (i j : Nat) (rs : List R) (s : DSt) : Flow := match rs with | [r1, r2] => if i < s.d.length ∧ j < s.d.length then .next (putS j (toSl r2) (putS i (toSl r1) s)) else .stuck | _ => .stuck
@[simp] theorem y_kPar (i j : Nat) (rs : List R) (s : DSt) : kPar i j rs s = (match rs with | [r1, r2] => if i < s.d.length ∧ j < s.d.length then .next (putS j (toSl r2) (putS i (toSl r1) s)) else .stuck | _ => .stuck) := Eq.trans rfl rfl
def kAsgB (b : Bd) (r : R) (s : DSt) : Flow := match r with | .val d => (match b d s with | some s2 => .next s2 | none => .stuck) | _ => .stuck
@[simp] theorem y_kAsgB (b : Bd) (r : R) (s : DSt) : kAsgB b r s = (match r with | .val d => (match b d s with | some s2 => .next s2 | none => .stuck) | _ => .stuck) := Eq.trans rfl rfl
def kLstI2  (r : R) (s : DSt) : Res (List PyData) := match r with | .val (.list ds) => .ok ds s | .val (.tuple ds) => .ok ds s | _ => .stuck
@[simp] theorem y_kLstI2  (r : R) (s : DSt) : kLstI2  r s = (match r with | .val (.list ds) => .ok ds s | .val (.tuple ds) => .ok ds s | _ => .stuck) := Eq.trans rfl rfl
def kLstI  (r : R) (s : DSt) : Res (List PyData) := (fEsc r s).bind kLstI2
@[simp] theorem y_kLstI  (r : R) (s : DSt) : kLstI  r s = ((fEsc r s).bind kLstI2) := Eq.trans rfl rfl
def kTupI  (r : R) (s : DSt) : Res (List PyData) := match look r s with | some (.tuple ds) => .ok ds s | _ => .stuck
@[simp] theorem y_kTupI  (r : R) (s : DSt) : kTupI  r s = (match look r s with | some (.tuple ds) => .ok ds s | _ => .stuck) := Eq.trans rfl rfl
def kRng1  (rs : List R) (s : DSt) : Res (List PyData) := match rs with | [r] => (match look r s with | some (.int j) => if inB j then .ok (rangeD 0 j.toNat) s else .stuck | _ => .stuck) | _ => .stuck
@[simp] theorem y_kRng1  (rs : List R) (s : DSt) : kRng1  rs s = (match rs with | [r] => (match look r s with | some (.int j) => if inB j then .ok (rangeD 0 j.toNat) s else .stuck | _ => .stuck) | _ => .stuck) := Eq.trans rfl rfl
def kRng2  (rs : List R) (s : DSt) : Res (List PyData) := match rs with | [r, r2] => (match look r s, look r2 s with | some (.int i), some (.int j) => if inB i ∧ inB j then .ok (rangeD i (j - i).toNat) s else .stuck | _, _ => .stuck) | _ => .stuck
@[simp] theorem y_kRng2  (rs : List R) (s : DSt) : kRng2  rs s = (match rs with | [r, r2] => (match look r s, look r2 s with | some (.int i), some (.int j) => if inB i ∧ inB j then .ok (rangeD i (j - i).toNat) s else .stuck | _, _ => .stuck) | _ => .stuck) := Eq.trans rfl rfl
def kEnum  (rs : List R) (s : DSt) : Res (List PyData) := match rs with | [.val (.list ds)] => .ok (enumD ds) s | _ => .stuck
@[simp] theorem y_kEnum  (rs : List R) (s : DSt) : kEnum  rs s = (match rs with | [.val (.list ds)] => .ok (enumD ds) s | _ => .stuck) := Eq.trans rfl rfl
def kZip  (rs : List R) (s : DSt) : Res (List PyData) := match rs with | [.val (.list ds), .val (.list es)] => .ok (zipD ds es) s | _ => .stuck
@[simp] theorem y_kZip  (rs : List R) (s : DSt) : kZip  rs s = (match rs with | [.val (.list ds), .val (.list es)] => .ok (zipD ds es) s | _ => .stuck) := Eq.trans rfl rfl
def kUn (o : R → M R) (x : R) (s : DSt) : Res R := o x s
@[simp] theorem y_kUn (o : R → M R) (x : R) (s : DSt) : kUn o x s = (o x s) := Eq.trans rfl rfl
def kIxC (c : Addr) (r : R) (s : DSt) : Res R := match s.w, look r s with | some (pa, ca, cells, t), some (.int n) => if c = ca then match atI cells n with | some z => .ok (.val (.int z)) s | none => .stuck else .stuck | _, _ => .stuck
@[simp] theorem y_kIxC (c : Addr) (r : R) (s : DSt) : kIxC c r s = (match s.w, look r s with | some (pa, ca, cells, t), some (.int n) => if c = ca then match atI cells n with | some z => .ok (.val (.int z)) s | none => .stuck else .stuck | _, _ => .stuck) := Eq.trans rfl rfl
@[simp] theorem x_ixC {i : Nat} {f : M R} {s : DSt} : fIxC i f s = (match s.d[i]? with | some (.raw (.ref c)) => (f s).bind (kIxC c) | _ => .stuck) := Eq.trans rfl rfl
@[simp] theorem x_unP {i j k : Nat} {s : DSt} : fUnP i j k s = (match s.d[i]?, s.w with | some (.raw (.ref p)), some (pa, ca, cells, t) => if p = pa ∧ pa ≠ ca ∧ j < s.d.length ∧ k < s.d.length then .next (putS k (.val (.int t)) (putS j (.raw (.ref ca)) s)) else .stuck | _, _ => .stuck) := Eq.trans rfl rfl
@[simp] theorem x_lenC {i : Nat} {s : DSt} : fLenC i s = (match s.d[i]?, s.w with | some (.raw (.ref c)), some (pa, ca, cells, t) => if c = ca then .ok (.val (.int cells.length)) s else .stuck | _, _ => .stuck) := Eq.trans rfl rfl
def kSetT (i : Nat) (r : R) (s : DSt) : Flow := match s.d[i]?, s.w, look r s with | some (.raw (.ref p)), some (pa, ca, cells, t), some (.int n) => if p = pa ∧ pa ≠ ca then .next ⟨s.d, some (pa, ca, cells, n)⟩ else .stuck | _, _, _ => .stuck
@[simp] theorem y_kSetT (i : Nat) (r : R) (s : DSt) : kSetT i r s = (match s.d[i]?, s.w, look r s with | some (.raw (.ref p)), some (pa, ca, cells, t), some (.int n) => if p = pa ∧ pa ≠ ca then .next ⟨s.d, some (pa, ca, cells, n)⟩ else .stuck | _, _, _ => .stuck) := Eq.trans rfl rfl
@[simp] theorem x_setT {i : Nat} {f : M R} {s : DSt} : fSetT i f s = onRes (f s) (kSetT i) := Eq.trans rfl rfl
def kSetC2 (c : Addr) (z : Option PyData) (k : R) (s : DSt) : Flow := match s.w, z, look k s with | some (pa, ca, cells, t), some (.int z), some (.int n) => if c = ca then match ixN cells.length n with | some j => .next ⟨s.d, some (pa, ca, cells.set j z, t)⟩ | none => .stuck else .stuck | _, _, _ => .stuck
@[simp] theorem y_kSetC2 (c : Addr) (z : Option PyData) (k : R) (s : DSt) : kSetC2 c z k s = (match s.w, z, look k s with | some (pa, ca, cells, t), some (.int z), some (.int n) => if c = ca then match ixN cells.length n with | some j => .next ⟨s.d, some (pa, ca, cells.set j z, t)⟩ | none => .stuck else .stuck | _, _, _ => .stuck) := Eq.trans rfl rfl
def kSetC (i : Nat) (g : M R) (r : R) (s : DSt) : Flow := match s.d[i]? with | some (.raw (.ref c)) => onRes (g s) (kSetC2 c (look r s)) | _ => .stuck
@[simp] theorem y_kSetC (i : Nat) (g : M R) (r : R) (s : DSt) : kSetC i g r s = (match s.d[i]? with | some (.raw (.ref c)) => onRes (g s) (kSetC2 c (look r s)) | _ => .stuck) := Eq.trans rfl rfl
@[simp] theorem x_setC {i : Nat} {f g : M R} {s : DSt} : fSetC i f g s = onRes (f s) (kSetC i g) := Eq.trans rfl rfl
section
variable {α β : Type} {i j k n : Nat} {s s1 s2 : DSt} {f g : M R} {fs : M (List R)} {t u : M Bool} {p q : DSt → Flow} {r x y : R} {d e : PyData} {ds es : List PyData} {v : V} {l : List Sl} {w : Pw} {c : Sl}
@[simp] theorem x_var : fVar i s = (match s.d[i]? with | some (.val d) => .ok (.val d) s | some (.raw v) => .ok (.raw v) s | some (.ob o) => .ok (.ob o) s | some (.own _) => .ok (.slot i) s | _ => .stuck) := Eq.trans rfl rfl
@[simp] theorem x_c : fC d s = .ok (.val d) s := Eq.trans rfl rfl
@[simp] theorem x_raw : fRaw v s = .ok (.raw v) s := Eq.trans rfl rfl
@[simp] theorem x_op {o : R → R → M R} : fOp o f g s = (f s).bind (kOp o g) := Eq.trans rfl rfl
@[simp] theorem x_look_val : look (.val d) s = some d := Eq.trans rfl rfl
@[simp] theorem x_look_new : look (.new ds) s = some (.list ds) := Eq.trans rfl rfl
@[simp] theorem x_look_raw : look (.raw v) s = none := Eq.trans rfl rfl
@[simp] theorem x_look_ob {o : OD} : look (.ob o) s = none := Eq.trans rfl rfl
@[simp] theorem x_look_slot : look (.slot i) s = (match s.d[i]? with | some (.own ds) => some (.list ds) | some (.val d) => some d | _ => none) := Eq.trans rfl rfl
@[simp] theorem x_lift1 {o : PyData → Option R} : lift1 o x s = (match look x s with | some d => (match o d with | some (.slot _) => .stuck | some r => .ok r s | none => .stuck) | none => .stuck) := Eq.trans rfl rfl
@[simp] theorem x_lift2 {o : PyData → PyData → Option R} : lift2 o x y s = (match look x s, look y s with | some d, some e => (match o d e with | some (.slot _) => .stuck | some r => .ok r s | none => .stuck) | _, _ => .stuck) := Eq.trans rfl rfl
@[simp] theorem x_B : fB f s = (f s).bind kB := Eq.trans rfl rfl
@[simp] theorem x_and : fAnd t u s = (t s).bind (kAnd u) := by
  show Res.bind _ _ = _
  congr 1
  funext b s
  cases b <;> rfl
@[simp] theorem x_or : fOr t u s = (t s).bind (kOr u) := by
  show Res.bind _ _ = _
  congr 1
  funext b s
  cases b <;> rfl
@[simp] theorem x_not : fNot t s = (t s).bind kNot := Eq.trans rfl rfl
@[simp] theorem x_V : fV t s = (t s).bind kV := Eq.trans rfl rfl
@[simp] theorem x_andV : fAndV f g s = (fB f s).bind (kAndV g) := by
  show Res.bind _ _ = _
  congr 1
  funext b s
  cases b <;> rfl
@[simp] theorem x_orV : fOrV f g s = (fB f s).bind (kOrV g) := by
  show Res.bind _ _ = _
  congr 1
  funext b s
  cases b <;> rfl
@[simp] theorem x_if : fIf t f g s = (t s).bind (kIf f g) := by
  show Res.bind _ _ = _
  congr 1
  funext b s
  cases b <;> rfl
@[simp] theorem x_esc_val : esc (.val d) s = some (.val d, s) := Eq.trans rfl rfl
@[simp] theorem x_esc_raw : esc (.raw v) s = some (.raw v, s) := Eq.trans rfl rfl
@[simp] theorem x_esc_ob {o : OD} : esc (.ob o) s = some (.ob o, s) := Eq.trans rfl rfl
@[simp] theorem x_esc_new : esc (.new ds) s = some (.val (.list ds), s) := Eq.trans rfl rfl
@[simp] theorem x_esc_slot : esc (.slot i) s = (match s.d[i]? with | some (.own ds) => some (.val (.list ds), ⟨s.d.set i (.val (.list ds)), s.w⟩) | some (.val d) => some (.val d, s) | _ => none) := Eq.trans rfl rfl
@[simp] theorem x_Esc : fEsc r s = (match esc r s with | some (r', s') => .ok r' s' | none => .stuck) := Eq.trans rfl rfl
@[simp] theorem x_nil : fNil s = .ok [] s := Eq.trans rfl rfl
@[simp] theorem x_cons : fCons f fs s = (f s).bind (kCons fs) := Eq.trans rfl rfl
@[simp] theorem x_pcons : pCons f fs s = (f s).bind (kCons2 fs) := Eq.trans rfl rfl
@[simp] theorem x_datas_nil : datas [] = some [] := Eq.trans rfl rfl
@[simp] theorem x_datas_cons {rs : List R} : datas (.val d :: rs) = (datas rs).map (d :: ·) := Eq.trans rfl rfl
@[simp] theorem x_lst : fLst fs s = (fs s).bind kLst := Eq.trans rfl rfl
@[simp] theorem x_tup : fTup fs s = (fs s).bind kTup := Eq.trans rfl rfl
@[simp] theorem x_part : fPart f s = (f s).bind kPart := Eq.trans rfl rfl
@[simp] theorem x_nopart : fNoPart s = .ok none s := Eq.trans rfl rfl
@[simp] theorem x_slice {a b : M (Option Int)} : fSlice f a b s = (f s).bind (kSl1 a b) := Eq.trans rfl rfl
@[simp] theorem x_un {o : R → M R} : fUn o f s = (f s).bind (kUn o) := Eq.trans rfl rfl
@[simp] theorem x_isN {b : Bool} : fIsN b f s = (f s).bind (kIsN b) := Eq.trans rfl rfl
@[simp] theorem x_isN_val : isNR (.val d) s = some (match d with | .none => true | _ => false) := by cases d <;> rfl
@[simp] theorem x_isN_ob {o : OD} : isNR (.ob o) s = some false := Eq.trans rfl rfl
@[simp] theorem x_isN_new : isNR (.new ds) s = some false := Eq.trans rfl rfl
@[simp] theorem x_isN_slot : isNR (.slot i) s = (match s.d[i]? with | some (.own _) => some false | some (.val d) => some (match d with | .none => true | _ => false) | _ => none) := by
  show (match look (.slot i) s with | some .none => some true | some _ => some false | none => none) = _
  rw [x_look_slot]
  cases s.d[i]? with
  | none => rfl
  | some c =>
    cases c with
    | val d => cases d <;> rfl
    | _ => rfl
@[simp] theorem x_onRes_ok {a : α} {h : α → DSt → Flow} : onRes (.ok a s) h = h a s := Eq.trans rfl rfl
@[simp] theorem x_onRes_err {z : Exn} {h : α → DSt → Flow} : onRes (.err z s) h = .err z s := Eq.trans rfl rfl
@[simp] theorem x_onRes_stuck {h : α → DSt → Flow} : onRes .stuck h = .stuck := Eq.trans rfl rfl
@[simp] theorem x_seq : fseq p q s = andThen (p s) q := Eq.trans rfl rfl
@[simp] theorem x_next : fnext s = .next s := Eq.trans rfl rfl
@[simp] theorem x_brk : fbrk s = .brk s := Eq.trans rfl rfl
@[simp] theorem x_cnt : fcnt s = .cnt s := Eq.trans rfl rfl
@[simp] theorem x_never : fnever s = .stuck := Eq.trans rfl rfl
@[simp] theorem x_drop : fDrop f s = onRes (f s) kDrop := Eq.trans rfl rfl
@[simp] theorem x_ret : fRet f s = onRes (f s) Flow.ret := Eq.trans rfl rfl
@[simp] theorem x_retN : fRetN s = .ret (.val .none) s := Eq.trans rfl rfl
@[simp] theorem x_ifS : fIfS t p q s = onRes (t s) (kIfS p q) := by
  show onRes _ _ = _
  congr 1
@[simp] theorem x_store_val : store i (.val d) s = some (putS i (.val d) s) := Eq.trans rfl rfl
@[simp] theorem x_store_raw : store i (.raw v) s = some (putS i (.raw v) s) := Eq.trans rfl rfl
@[simp] theorem x_store_ob {o : OD} : store i (.ob o) s = some (putS i (.ob o) s) := Eq.trans rfl rfl
@[simp] theorem x_store_new : store i (.new ds) s = some (putS i (.own ds) s) := Eq.trans rfl rfl
@[simp] theorem x_store_slot : store i (.slot j) s = (match s.d[j]? with | some (.own ds) => some (putS i (.val (.list ds)) (putS j (.val (.list ds)) s)) | some (.val d) => some (putS i (.val d) s) | _ => none) := Eq.trans rfl rfl
@[simp] theorem x_putS : putS i c ⟨l, w⟩ = ⟨l.set i c, w⟩ := Eq.trans rfl rfl
@[simp] theorem x_set : fSet i f s = onRes (f s) (kSet i) := Eq.trans rfl rfl
@[simp] theorem x_user {F : List R → Pw → FRes} : fUser F fs s = (fs s).bind (kUser F) := Eq.trans rfl rfl
@[simp] theorem x_call {o : List PyData → Option R} : fCall o fs s = (fs s).bind (kCall o) := Eq.trans rfl rfl
@[simp] theorem x_looks_nil : looks [] s = some [] := Eq.trans rfl rfl
@[simp] theorem x_looks_cons {rs : List R} : looks (r :: rs) s = (match look r s, looks rs s with | some d, some ds => some (d :: ds) | _, _ => none) := Eq.trans rfl rfl
@[simp] theorem x_isi {m : String} : fIsi m f s = (f s).bind (kIsi m) := Eq.trans rfl rfl
@[simp] theorem x_lenSet : fLenSet f s = (f s).bind kLenSet := Eq.trans rfl rfl
@[simp] theorem x_isLst_val : isLst (.val (.list ds)) s = true := Eq.trans rfl rfl
@[simp] theorem x_isLst_new : isLst (.new ds) s = true := Eq.trans rfl rfl
@[simp] theorem x_isLst_slot : isLst (.slot i) s = (match s.d[i]? with | some (.own _) => true | some (.val (.list _)) => true | _ => false) := by
  show (match look (.slot i) s with | some (.list _) => true | _ => false) = _
  rw [x_look_slot]
  cases s.d[i]? with
  | none => rfl
  | some c =>
    cases c with
    | val d => cases d <;> rfl
    | _ => rfl
@[simp] theorem x_index : fIndex g f s = (g s).bind (kIdx f) := by
  show Res.bind _ _ = _
  congr 1
@[simp] theorem x_isOwn : isOwn i s = (match s.d[i]? with | some (.own _) => true | _ => false) := Eq.trans rfl rfl
@[simp] theorem x_app : fApp i f s = if isOwn i s = true then (f s).bind (kApp1 i) else .stuck := Eq.trans rfl rfl
@[simp] theorem x_pop : fPop i s = (match s.d[i]? with | some (.own ds) => (match ds[ds.length - 1]? with | some d => .ok (.val d) (putS i (.own ds.dropLast) s) | none => .stuck) | _ => .stuck) := Eq.trans rfl rfl
@[simp] theorem x_popAt : fPopAt i f s = if isOwn i s = true then (f s).bind (kPopAt i) else .stuck := Eq.trans rfl rfl
@[simp] theorem x_ins : fIns i fs s = if isOwn i s = true then (fs s).bind (kIns i) else .stuck := Eq.trans rfl rfl
@[simp] theorem x_rem : fRem i f s = if isOwn i s = true then (f s).bind (kRem i) else .stuck := Eq.trans rfl rfl
@[simp] theorem x_clear : fClear i s = (match s.d[i]? with | some (.own _) => .ok (.val .none) (putS i (.own []) s) | _ => .stuck) := Eq.trans rfl rfl
@[simp] theorem x_aug {o : Int → Int → Int} : fAug i o f s = (match s.d[i]? with | some (.val (.int a)) => onRes (f s) (kAug i o a) | _ => .stuck) := Eq.trans rfl rfl
@[simp] theorem x_setIx : fSetIx i f g s = onRes ((f s).bind fEsc) (kSetIx i g) := Eq.trans rfl rfl
@[simp] theorem x_toSl_val : toSl (.val d) = .val d := Eq.trans rfl rfl
@[simp] theorem x_toSl_ob {o : OD} : toSl (.ob o) = .ob o := Eq.trans rfl rfl
@[simp] theorem x_toSl_raw : toSl (.raw v) = .raw v := Eq.trans rfl rfl
@[simp] theorem x_par : fPar i j fs s = onRes (fs s) (kPar i j) := Eq.trans rfl rfl
@[simp] theorem x_bName : bName i d s = if i < s.d.length then some (putS i (.val d) s) else none := Eq.trans rfl rfl
@[simp] theorem x_bTup {bs : Bds} : bTup n bs (.tuple ds) s = if ds.length = n then bs ds s else none := Eq.trans rfl rfl
@[simp] theorem x_bSeq_t {bs : Bds} : bSeq n bs (.tuple ds) s = if ds.length = n then bs ds s else none := Eq.trans rfl rfl
@[simp] theorem x_bSeq_l {bs : Bds} : bSeq n bs (.list ds) s = if ds.length = n then bs ds s else none := Eq.trans rfl rfl
@[simp] theorem x_bNil : bNil [] s = some s := Eq.trans rfl rfl
@[simp] theorem x_bCons {b : Bd} {bs : Bds} : bCons b bs (d :: ds) s = (match b d s with | some s' => bs ds s' | none => none) := Eq.trans rfl rfl
@[simp] theorem x_asgB {b : Bd} : fAsgB f b s = onRes ((f s).bind fEsc) (kAsgB b) := Eq.trans rfl rfl
@[simp] theorem x_lstI : fLstI f s = (f s).bind kLstI := Eq.trans rfl rfl
@[simp] theorem x_tupI : fTupI f s = (f s).bind kTupI := Eq.trans rfl rfl
@[simp] theorem x_rng1 : fRng1 fs s = (fs s).bind kRng1 := Eq.trans rfl rfl
@[simp] theorem x_rng2 : fRng2 fs s = (fs s).bind kRng2 := Eq.trans rfl rfl
@[simp] theorem x_enum : fEnum fs s = (fs s).bind kEnum := Eq.trans rfl rfl
@[simp] theorem x_zip : fZip fs s = (fs s).bind kZip := Eq.trans rfl rfl
@[simp] theorem x_for {fi : M (List PyData)} {b : Bd} : fFor fi b p s = onRes (fi s) (loopF b p) := Eq.trans rfl rfl
@[simp] theorem x_yes : fYes s = .ok true s := Eq.trans rfl rfl
@[simp] theorem x_addII {a b : Int} : addO (.int a) (.int b) = some (.val (.int (a + b))) := Eq.trans rfl rfl
@[simp] theorem x_addLL : addO (.list ds) (.list es) = if leS (ds.length + es.length) then some (.new (ds ++ es)) else none := Eq.trans rfl rfl
@[simp] theorem x_addTT : addO (.tuple ds) (.tuple es) = if leS (ds.length + es.length) then some (.val (.tuple (ds ++ es))) else none := Eq.trans rfl rfl
@[simp] theorem x_sub {a b : Int} : subO (.int a) (.int b) = some (.val (.int (a - b))) := Eq.trans rfl rfl
theorem x_mul {a b : Int} : mulO (.int a) (.int b) = if lgM a b then some (.val (.int (a * b))) else none := Eq.trans rfl rfl
@[simp] theorem x_mulL {k : Int} : mulO (.list ds) (.int k) = if inW k ∧ leS (ds.length * k.toNat) then some (.new (List.replicate k.toNat ds).flatten) else none := Eq.trans rfl rfl
theorem x_fdiv {a b : Int} : fdivO (.int a) (.int b) = if 0 < b ∧ lgD b then some (.val (.int (a / b))) else none := Eq.trans rfl rfl
theorem x_mod {a b : Int} : modO (.int a) (.int b) = if 0 < b then some (.val (.int (a % b))) else none := Eq.trans rfl rfl
theorem x_pow {a b : Int} : powO (.int a) (.int b) = if 0 ≤ b ∧ leP b ∧ lgP a then some (.val (.int (a ^ b.toNat))) else none := Eq.trans rfl rfl
@[simp] theorem x_lt {a b : Int} : ltO (.int a) (.int b) = some (.val (.bool (decide (a < b)))) := Eq.trans rfl rfl
@[simp] theorem x_le {a b : Int} : leO (.int a) (.int b) = some (.val (.bool (decide (a ≤ b)))) := Eq.trans rfl rfl
@[simp] theorem x_gt {a b : Int} : gtO (.int a) (.int b) = some (.val (.bool (decide (b < a)))) := Eq.trans rfl rfl
@[simp] theorem x_ge {a b : Int} : geO (.int a) (.int b) = some (.val (.bool (decide (b ≤ a)))) := Eq.trans rfl rfl
@[simp] theorem x_neg {a : Int} : negO (.int a) = some (.val (.int (-a))) := Eq.trans rfl rfl
@[simp] theorem x_rev : revO (.list ds) = some (.new ds.reverse) := Eq.trans rfl rfl
@[simp] theorem x_ixL {a : Int} : ixO (.list ds) (.int a) = (atI ds a).map .val := Eq.trans rfl rfl
@[simp] theorem x_ixT {a : Int} : ixO (.tuple ds) (.int a) = (atI ds a).map .val := Eq.trans rfl rfl
@[simp] theorem x_lenL : lenO [.list ds] = some (.val (.int ds.length)) := Eq.trans rfl rfl
@[simp] theorem x_lenT : lenO [.tuple ds] = some (.val (.int ds.length)) := Eq.trans rfl rfl
@[simp] theorem x_listL : listO [.list ds] = some (.new ds) := Eq.trans rfl rfl
@[simp] theorem x_listT : listO [.tuple ds] = some (.new ds) := Eq.trans rfl rfl
@[simp] theorem x_tupL : tupleO [.list ds] = some (.val (.tuple ds)) := Eq.trans rfl rfl
@[simp] theorem x_sliceL {lo hi : Option Int} : sliceO (.list ds) lo hi = some (.new (cutD ds lo hi)) := Eq.trans rfl rfl
@[simp] theorem x_sliceT {lo hi : Option Int} : sliceO (.tuple ds) lo hi = some (.val (.tuple (cutD ds lo hi))) := Eq.trans rfl rfl
@[simp] theorem x_allO : allO [.list ds] = (boolsD ds).map fun bs => .val (.bool (bs.all id)) := Eq.trans rfl rfl
@[simp] theorem x_anyO : anyO [.list ds] = (boolsD ds).map fun bs => .val (.bool (bs.any id)) := Eq.trans rfl rfl
@[simp] theorem x_sumO : sumO [.list ds] = (intsD ds).map fun bs => .val (.int bs.sum) := Eq.trans rfl rfl
@[simp] theorem x_sortedO : sortedO [.list ds] = (match intsD ds with | some ns => some (.new ((sortI ns).map .int)) | none => if canSort ds then some (.new (sortDD ds)) else none) := Eq.trans rfl rfl
@[simp] theorem x_absO {a : Int} : absO [.int a] = some (.val (.int (if a < 0 then -a else a))) := Eq.trans rfl rfl
@[simp] theorem x_intI {a : Int} : intO [.int a] = some (.val (.int a)) := Eq.trans rfl rfl
@[simp] theorem x_intB {b : Bool} : intO [.bool b] = some (.val (.int (if b then 1 else 0))) := Eq.trans rfl rfl
@[simp] theorem x_max2 {a b : Int} : maxO [.int a, .int b] = some (.val (.int (if b > a then b else a))) := Eq.trans rfl rfl
@[simp] theorem x_min2 {a b : Int} : minO [.int a, .int b] = some (.val (.int (if b < a then b else a))) := Eq.trans rfl rfl
@[simp] theorem x_isT_int {a : Int} {m : String} : isT m (.int a) = (m == "int") := by simp [isT, isN, tyN]
@[simp] theorem x_isT_bool {a : Bool} {m : String} : isT m (.bool a) = (m == "bool" || m == "int") := by simp [isT, isN, tyN]
@[simp] theorem x_isT_list {m : String} : isT m (.list ds) = (m == "list") := by simp [isT, isN, tyN]
@[simp] theorem x_isT_tuple {m : String} : isT m (.tuple ds) = (m == "tuple") := by simp [isT, isN, tyN]
@[simp] theorem x_isT_str {a : Str} {m : String} : isT m (.str a) = (m == "str") := by simp [isT, isN, tyN]
@[simp] theorem x_isT_none {m : String} : isT m .none = (m == "NoneType") := by simp [isT, isN, tyN]
@[simp] theorem x_finR_val : finR (.val d) s = some (.val d) := Eq.trans rfl rfl
@[simp] theorem x_finR_new : finR (.new ds) s = some (.new ds) := Eq.trans rfl rfl
@[simp] theorem x_finR_raw : finR (.raw v) s = some (.raw v) := Eq.trans rfl rfl
@[simp] theorem x_finR_ob {o : OD} : finR (.ob o) s = some (.ob o) := Eq.trans rfl rfl
@[simp] theorem x_finR_slot : finR (.slot i) s = (match s.d[i]? with | some (.own ds) => some (.new ds) | some (.val d) => some (.val d) | _ => none) := Eq.trans rfl rfl
theorem x_runF {m : Nat} {rs : List R} : runF n m p rs w = if rs.length = m then finF (p ⟨rs.map toSl ++ List.replicate (n - m) .no, w⟩) else .stuck := Eq.trans rfl rfl
end
/-! ### loops -/
theorem loopF_inv {b : Bd} {p : DSt → Flow} (Inv : Nat → DSt → Prop) {ds : List PyData} {s : DSt} (h0 : Inv 0 s) (step : ∀ (i : Nat) (d : PyData) (s : DSt), ds[i]? = some d → Inv i s → ∃ s1 s2, b d s = some s1 ∧ p s1 = .next s2 ∧ Inv (i + 1) s2) : ∃ s', loopF b p ds s = .next s' ∧ Inv ds.length s' := by
  induction ds generalizing s Inv with
  | nil => exact ⟨s, rfl, h0⟩
  | cons d ds ih =>
    obtain ⟨s1, s2, e1, e2, h2⟩ := step 0 d s rfl h0
    obtain ⟨s', e, h⟩ := ih (fun i => Inv (i + 1)) h2 fun i d s hi h => step (i + 1) d s (by simpa using hi) h
    refine ⟨s', ?_, h⟩
    unfold loopF
    simp only [e1, e2]
    exact e
/-- a loop that may hand back -/
theorem loopF_ret {b : Bd} {p : DSt → Flow} (Inv : Nat → DSt → Prop) (Post : R → DSt → Prop) {ds : List PyData} {s : DSt} (h0 : Inv 0 s)
    (step : ∀ (i : Nat) (d : PyData) (s : DSt), ds[i]? = some d → Inv i s → ∃ s1, b d s = some s1 ∧ ((∃ s2, p s1 = .next s2 ∧ Inv (i + 1) s2) ∨ ∃ r s2, p s1 = .ret r s2 ∧ Post r s2)) :
    (∃ s', loopF b p ds s = .next s' ∧ Inv ds.length s') ∨ ∃ r s', loopF b p ds s = .ret r s' ∧ Post r s' := by
  induction ds generalizing s Inv with
  | nil => exact .inl ⟨s, rfl, h0⟩
  | cons d ds ih =>
    obtain ⟨s1, e1, h1⟩ := step 0 d s rfl h0
    rcases h1 with ⟨s2, e2, h2⟩ | ⟨r, s2, e2, h2⟩
    · have := ih (fun i => Inv (i + 1)) h2 fun i d s hi h => step (i + 1) d s (by simpa using hi) h
      unfold loopF
      simp only [e1, e2]
      exact this
    · refine .inr ⟨r, s2, ?_, h2⟩
      unfold loopF
      simp only [e1, e2]
theorem whileF_inv {c : M Bool} {p : DSt → Flow} (Inv : DSt → Prop) (m : DSt → Nat) (n : Nat) {s : DSt} (h0 : Inv s) (hn : m s < n)
    (step : ∀ s, Inv s → (∃ s1, c s = .ok true s1 ∧ ∃ s2, p s1 = .next s2 ∧ Inv s2 ∧ m s2 < m s) ∨ (c s = .ok false s)) : ∃ s', whileF c p n s = .next s' ∧ Inv s' ∧ c s' = .ok false s' := by
  induction n generalizing s with
  | zero => omega
  | succ n ih =>
    rcases step s h0 with ⟨s1, e1, s2, e2, h2, hm⟩ | e
    · obtain ⟨s', e, h⟩ := ih h2 (by omega)
      refine ⟨s', ?_, h⟩
      unfold whileF
      simp only [e1, x_onRes_ok, if_true, e2]
      exact e
    · refine ⟨s, ?_, h0, e⟩
      unfold whileF
      simp [e]
/-! ### comprehensions -/
theorem loopC_pure {b : Bd} {ft : M Bool} {fe : M R} {vs : List Nat} {s : DSt} (sb : PyData → DSt) (keep : PyData → Bool) (g : PyData → PyData) (hn : noOwn vs s.d = true) : ∀ (ds acc : List PyData),
    (∀ d ∈ ds, b d ⟨blank vs s.d, s.w⟩ = some (sb d)) → (∀ d ∈ ds, (⟨putBack vs s.d (sb d).d, (sb d).w⟩ : DSt) = s) → (∀ d ∈ ds, ft (sb d) = .ok (keep d) (sb d)) → (∀ d ∈ ds, keep d = true → (fe (sb d)).bind fEsc = .ok (.val (g d)) (sb d)) →
    loopC b ft fe vs ds acc s = .ok (acc ++ (ds.filter keep).map g) s
  | [], acc, _, _, _, _ => by simp [loopC]
  | d :: ds, acc, h1, h2, h3, h4 => by
    have ih := fun acc => loopC_pure sb keep g hn ds acc (fun d hd => h1 d (List.mem_cons_of_mem _ hd)) (fun d hd => h2 d (List.mem_cons_of_mem _ hd)) (fun d hd => h3 d (List.mem_cons_of_mem _ hd)) (fun d hd => h4 d (List.mem_cons_of_mem _ hd))
    have e1 := h1 d List.mem_cons_self
    have e2 := h2 d List.mem_cons_self
    have e3 := h3 d List.mem_cons_self
    unfold loopC
    rw [if_pos hn, e1]
    dsimp only
    rw [e3]
    cases k : keep d with
    | false =>
      show loopC b ft fe vs ds acc _ = _
      rw [e2, ih]
      simp [k]
    | true =>
      have e4 := h4 d List.mem_cons_self k
      show (nerr (bnd fe fEsc (sb d))).bind _ = _
      rw [bnd_app, e4]
      show loopC b ft fe vs ds (acc ++ [g d]) _ = _
      rw [e2, ih]
      simp [k]
theorem blank_one (j : Nat) (d : List Sl) : blank [j] d = d.set j .no := rfl
theorem back_one (j : Nat) (o d : List Sl) : putBack [j] o d = d.set j (o.getD j .no) := rfl
theorem set_back {d : List Sl} {j : Nat} {x : Sl} (hj : j < d.length) : ((d.set j .no).set j x).set j (d.getD j .no) = d := by
  rw [List.set_set, List.set_set]
  apply List.ext_getElem?
  intro i
  rw [List.getElem?_set]
  split
  · rename_i e
    subst e
    rw [List.getD_eq_getElem?_getD, List.getElem?_eq_getElem hj]
    rfl
  · rfl
/-- one name, an element that changes nothing -/
theorem lc_one {fi : M (List PyData)} {ft : M Bool} {fe : M R} {j : Nat} {s s1 : DSt} {ds : List PyData} (keep : PyData → Bool) (g : PyData → PyData) (hi : fi s = .ok ds s1) (hj : j < s1.d.length) (hn : noOwn [j] s1.d = true) (hl : leS ds.length)
    (ht : ∀ d ∈ ds, ft ⟨s1.d.set j (.val d), s1.w⟩ = .ok (keep d) ⟨s1.d.set j (.val d), s1.w⟩) (he : ∀ d ∈ ds, keep d = true → (fe ⟨s1.d.set j (.val d), s1.w⟩).bind fEsc = .ok (.val (g d)) ⟨s1.d.set j (.val d), s1.w⟩) :
    fLc fi (bName j) ft fe [j] s = .ok (.new ((ds.filter keep).map g)) s1 := by
  unfold fLc
  simp only [bnd_app, hi, bind_ok, if_pos hl]
  have e : ∀ d : PyData, (s1.d.set j Sl.no).set j (.val d) = s1.d.set j (.val d) := fun d => List.set_set ..
  rw [loopC_pure (fun d => ⟨s1.d.set j (.val d), s1.w⟩) keep g hn ds [] (fun d _ => ?_) (fun d _ => ?_) ht he]
  · simp
  · rw [blank_one]
    simp only [x_bName, List.length_set, if_pos hj, x_putS, e]
  · simp only [back_one]
    rw [← e d, set_back hj]
/-- .. over all items -/
theorem lc_map {fi : M (List PyData)} {fe : M R} {j : Nat} {s s1 : DSt} {ds : List PyData} (g : PyData → PyData) (hi : fi s = .ok ds s1) (hj : j < s1.d.length) (hn : noOwn [j] s1.d = true) (hl : leS ds.length)
    (he : ∀ d ∈ ds, (fe ⟨s1.d.set j (.val d), s1.w⟩).bind fEsc = .ok (.val (g d)) ⟨s1.d.set j (.val d), s1.w⟩) : fLc fi (bName j) fYes fe [j] s = .ok (.new (ds.map g)) s1 := by
  rw [lc_one (ft := fYes) (fun _ => true) g hi hj hn hl (fun _ _ => rfl) (fun d hd _ => he d hd), List.filter_eq_self.mpr (fun _ _ => rfl)]
end DL

/-! DL16: what is asked of a law's own body, and the end -/
noncomputable section
namespace DL
open PySem L2 PyProof.Rows
def PurseOk (n : Nat) (p : DSt → Flow) : Prop := ∀ (a : Addr) (ns : List Int), ns.length ≤ 63 → ∃ (cells : List Int) (s' : DSt), p ⟨.raw (.ref a) :: .own (ns.map .int) :: List.replicate (n - 2) .no, none⟩ = .ret (.new [.list (cells.map .int), .int 0]) s' ∧ cells ≠ [] ∧ cells.length ≤ 63
def LawOk (n : Nat) (p : DSt → Flow) : Prop := ∀ (a pa ca : Addr) (cells : List Int), pa ≠ ca → cells ≠ [] → cells.length ≤ 63 → ∃ s', p ⟨(Sl.raw (.ref a) :: List.replicate (n - 1) Sl.no).set 1 (.raw (.ref pa)), some (pa, ca, cells, 0)⟩ = .ret (.val (.bool true)) s'
theorem wr_mk {K : PySem.W.Frag} {h : Heap} {mg : Str → Option Value} {x : Str} {st : Stmt} {f : Addr} {oc : Value} {od an : Option Addr} {osl : Array (Option Value)} {kV doc pm cdv ct : Value} {ps : List Str} (X : K.In h) (G : h.Ns mainGlobals mg)
    (a : PySem.W.nsIn K mainGlobals x = some (some (.ref f))) (l : K.lookup f = some ⟨oc, od, .func (PySem.W.fnOf x x (defArgs st) (defBody st) (defScope st) .none kV doc pm an cdv ct), osl⟩)
    (c : PySem.W.codeIn K cdv x = true) (k : PySem.W.keepIn K (.ref f) = true) (h : ∀ (kV doc pm : Value) (an : Option Addr) (cdv ct : Value) (us : List Value), us.length = ps.length → bindArgs (PySem.W.fnOf x x (defArgs st) (defBody st) (defScope st) .none kV doc pm an cdv ct) ⟨us, []⟩ = pure (ps.zip us)) : Wr K mg x st ps :=
  ⟨f, _, fun_mk l c k, PySem.W.mg_of X G a, (fun_mk l c k).binds h⟩
theorem walk {l : PySem.W.OpenLaw} {q : Program} {loose : List Str} {XP : (Str → Option Value) → Heap → Prop} {YP : World → Heap → Prop} {d : DefRec} {K : Params → PySem.W.Frag} {k : Nat} {x : Str} (hn : l.most = some 63) (hdf : d.params.defaults = []) (hr : Room k callerA)
    (hY : ∀ (w : World) (h : Heap), YP w h → (K w.params).In h)
    (F : ∀ (w : World) (mg : Str → Option Value) (fa : Addr) (h : Heap), (K w.params).In h → h.Ns mainGlobals mg → mg d.name = some (.ref fa) →
      ∃ fd : FuncData, (∀ (s : Shared) (u : Value), BindsTo s fd ⟨[u], []⟩ [(x, u)]) ∧ ∀ base : Heap, (K w.params).In base → base.Ns mainGlobals mg → FnG l.prog w (K w.params) mg base (L2.CX l.prog w) k fa fd [x] (spLaw (K w.params))) :
    PySem.W.WalkO q loose XP YP l.row.toRowW d [] (fun f vs => PySem.call f vs) := by
  refine Att.attach_call hn hdf fun w _ s1 mg mb fa _ _ _ _ a us ns G Y _ _ _ hmg scr hi hl g0 => ?_
  have KX := hY w _ Y
  obtain ⟨fd, bi, FF⟩ := F w mg fa _ KX G.T.g hmg
  exact law_goes KX G.T.g G.T.b G.T.builtins G.T.nolimit g0 scr hi (Nat.le_trans hl (by decide)) hr FF bi fun H _ hS => ⟨a, ns, rfl, hS, hl, fun _ => rfl⟩
end DL

/-! DL17: data in plain words: equality, places, cuts -/
noncomputable section
namespace DL
open PySem L2
/-! ### no truth value and no dict within: == is equality -/
mutual
def calmD : PyData → Bool
  | .none | .int _ | .str _ => true
  | .list xs | .tuple xs => calmA xs
  | _ => false
def calmA : List PyData → Bool
  | [] => true
  | x :: xs => calmD x && calmA xs
end
mutual
theorem eqv_calm : ∀ d e : PyData, calmD d = true → calmD e = true → (PyData.eqv d e = true ↔ d = e)
  | .none, e, _, h => by cases e <;> simp [PyData.eqv, calmD] at *
  | .int i, e, _, h => by cases e <;> simp [PyData.eqv, calmD] at *
  | .str i, e, _, h => by cases e <;> simp [PyData.eqv, calmD] at *
  | .list xs, e, h1, h => by
    cases e <;> simp [PyData.eqv, calmD] at *
    rename_i ys
    exact eqvAll_calm xs ys h1 h
  | .tuple xs, e, h1, h => by
    cases e <;> simp [PyData.eqv, calmD] at *
    rename_i ys
    exact eqvAll_calm xs ys h1 h
  | .bool _, _, h, _ => by simp [calmD] at h
  | .dict _, _, h, _ => by simp [calmD] at h
theorem eqvAll_calm : ∀ xs ys : List PyData, calmA xs = true → calmA ys = true → (PyData.eqvAll xs ys = true ↔ xs = ys)
  | [], ys, _, _ => by cases ys <;> simp [PyData.eqvAll]
  | x :: xs, ys, h1, h => by
    cases ys with
    | nil => simp [PyData.eqvAll]
    | cons y ys =>
      simp [calmA] at h1 h
      simp [PyData.eqvAll, eqv_calm x y h1.1 h.1, eqvAll_calm xs ys h1.2 h.2]
end
theorem eqv_dec {d e : PyData} {p : Prop} [Decidable p] (h1 : calmD d = true) (h2 : calmD e = true) (h : d = e ↔ p) : PyData.eqv d e = decide p := by
  rw [Bool.eq_iff_iff, eqv_calm d e h1 h2, h]
  simp
theorem calmA_iff {xs : List PyData} : calmA xs = true ↔ ∀ x ∈ xs, calmD x = true := by
  induction xs with
  | nil => simp [calmA]
  | cons x xs ih => simp [calmA, ih]
@[simp] theorem calm_int {i : Int} : calmD (.int i) = true := rfl
@[simp] theorem calm_str {i : Str} : calmD (.str i) = true := rfl
@[simp] theorem calm_none : calmD .none = true := rfl
@[simp] theorem calm_list {xs : List PyData} : calmD (.list xs) = calmA xs := rfl
@[simp] theorem calm_tuple {xs : List PyData} : calmD (.tuple xs) = calmA xs := rfl
@[simp] theorem calm_nil : calmA [] = true := rfl
@[simp] theorem calm_cons {x : PyData} {xs : List PyData} : calmA (x :: xs) = (calmD x && calmA xs) := rfl
@[simp] theorem calm_map {α : Type} {f : α → PyData} {l : List α} : calmA (l.map f) = l.all fun a => calmD (f a) := by
  induction l with
  | nil => rfl
  | cons a l ih => simp [ih]
@[simp] theorem calm_app {xs ys : List PyData} : calmA (xs ++ ys) = (calmA xs && calmA ys) := by
  induction xs with
  | nil => simp
  | cons a l ih => simp [ih, Bool.and_assoc]
theorem depthAll_le {xs : List PyData} {n : Nat} : PyData.depthAll xs ≤ n ↔ ∀ x ∈ xs, x.depth ≤ n := by
  induction xs with
  | nil => simp [PyData.depthAll]
  | cons x xs ih => simp [PyData.depthAll, ih, Nat.max_le]
@[simp] theorem dep_int {i : Int} : (PyData.int i).depth = 0 := rfl
@[simp] theorem dep_str {i : Str} : (PyData.str i).depth = 0 := rfl
@[simp] theorem dep_bool {i : Bool} : (PyData.bool i).depth = 0 := rfl
@[simp] theorem dep_none : (PyData.none).depth = 0 := rfl
@[simp] theorem dep_list {xs : List PyData} : (PyData.list xs).depth = PyData.depthAll xs + 1 := rfl
@[simp] theorem dep_tuple {xs : List PyData} : (PyData.tuple xs).depth = PyData.depthAll xs + 1 := rfl
@[simp] theorem dep_nil : PyData.depthAll [] = 0 := rfl
@[simp] theorem dep_cons {x : PyData} {xs : List PyData} : PyData.depthAll (x :: xs) = max x.depth (PyData.depthAll xs) := rfl
@[simp] theorem dep_ints {ns : List Int} : PyData.depthAll (ns.map .int) = 0 := by
  induction ns with
  | nil => rfl
  | cons a l ih => simp [ih]
theorem eqO_calm {d e : PyData} {p : Prop} [Decidable p] (h1 : calmD d = true) (h2 : calmD e = true) (hp : d = e ↔ p) (h : d.depth ≤ 60) : eqO d e = some (.val (.bool (decide p))) := by
  unfold eqO
  rw [if_pos (by omega), eqv_dec h1 h2 hp]
theorem neO_calm {d e : PyData} {p : Prop} [Decidable p] (h1 : calmD d = true) (h2 : calmD e = true) (hp : d = e ↔ p) (h : d.depth ≤ 60) : neO d e = some (.val (.bool (decide (¬ p)))) := by
  unfold neO
  rw [if_pos (by omega), eqv_dec h1 h2 hp]
  simp
theorem int_inj : Function.Injective PyData.int := fun a b h => by cases h; rfl
@[simp] theorem map_int_inj {ns ms : List Int} : ns.map PyData.int = ms.map PyData.int ↔ ns = ms := by
  constructor
  · exact fun h => (List.map_inj_right (fun a b h => int_inj h)).mp h
  · exact fun h => by rw [h]
@[simp] theorem x_eqI {a b : Int} : eqO (.int a) (.int b) = some (.val (.bool (decide (a = b)))) := eqO_calm rfl rfl (by simp) (by simp)
@[simp] theorem x_neI {a b : Int} : neO (.int a) (.int b) = some (.val (.bool (decide (¬ a = b)))) := neO_calm rfl rfl (by simp) (by simp)
@[simp] theorem x_eqB {a b : Bool} : eqO (.bool a) (.bool b) = some (.val (.bool (a == b))) := by simp [eqO, PyData.eqv]
@[simp] theorem x_neB {a b : Bool} : neO (.bool a) (.bool b) = some (.val (.bool (a != b))) := by simp [neO, PyData.eqv, bne]
@[simp] theorem x_eqS {a b : Str} : eqO (.str a) (.str b) = some (.val (.bool (decide (a = b)))) := eqO_calm rfl rfl (by simp) (by simp)
@[simp] theorem x_neS {a b : Str} : neO (.str a) (.str b) = some (.val (.bool (decide (¬ a = b)))) := neO_calm rfl rfl (by simp) (by simp)
@[simp] theorem x_eqL {a b : List Int} : eqO (.list (a.map .int)) (.list (b.map .int)) = some (.val (.bool (decide (a = b)))) := eqO_calm (by simp) (by simp) (by simp) (by simp)
@[simp] theorem x_neL {a b : List Int} : neO (.list (a.map .int)) (.list (b.map .int)) = some (.val (.bool (decide (¬ a = b)))) := neO_calm (by simp) (by simp) (by simp) (by simp)
theorem eqvAll_nil {ds : List PyData} : PyData.eqvAll ds [] = ds.isEmpty := by cases ds <;> rfl
@[simp] theorem x_eqDn {ds : List PyData} : eqO (.list ds) (.list []) = some (.val (.bool ds.isEmpty)) := by
  unfold eqO
  rw [if_pos (by simp)]
  simp [PyData.eqv, eqvAll_nil]
@[simp] theorem x_neDn {ds : List PyData} : neO (.list ds) (.list []) = some (.val (.bool (!ds.isEmpty))) := by
  unfold neO
  rw [if_pos (by simp)]
  simp [PyData.eqv, eqvAll_nil]
@[simp] theorem x_inL {a : Int} {ns : List Int} : inO (.int a) (.list (ns.map .int)) = some (.val (.bool (decide (a ∈ ns)))) := by
  unfold inO
  simp only [items, dep_ints, dep_int]
  rw [if_pos (by decide)]
  congr 3
  rw [Bool.eq_iff_iff]
  simp [PyData.eqv]
@[simp] theorem x_notInL {a : Int} {ns : List Int} : notInO (.int a) (.list (ns.map .int)) = some (.val (.bool (decide (¬ a ∈ ns)))) := by
  have h := x_inL (a := a) (ns := ns)
  unfold inO at h
  unfold notInO
  simp only [items, dep_ints, dep_int] at h ⊢
  rw [if_pos (by decide)] at h ⊢
  injection h with h
  injection h with h
  injection h with h
  rw [h]
  simp
theorem boolsD_map' {α : Type} {f : α → Bool} {l : List α} : boolsD (l.map fun a => .bool (f a)) = some (l.map f) := by
  induction l with
  | nil => rfl
  | cons a l ih => simp [boolsD, ih]
theorem intsD_map' {α : Type} {f : α → Int} {l : List α} : intsD (l.map fun a => .int (f a)) = some (l.map f) := by
  induction l with
  | nil => rfl
  | cons a l ih => simp [intsD, ih]
/-! ### places -/
theorem atI_nat {α : Type} {xs : List α} {k : Nat} : atI xs (k : Int) = xs[k]? := by
  unfold atI ixN
  rw [if_pos (by omega)]
  by_cases h : k < xs.length
  · rw [if_pos (by omega)]; simp
  · rw [if_neg (by omega)]; simp; omega
theorem atI_pos {α : Type} {xs : List α} {i : Int} (h : 0 ≤ i) : atI xs i = xs[i.toNat]? := by
  obtain ⟨k, rfl⟩ := Int.eq_ofNat_of_zero_le h
  exact atI_nat
@[simp] theorem atI_0 {α : Type} {xs : List α} : atI xs 0 = xs[0]? := atI_nat (k := 0)
@[simp] theorem atI_1 {α : Type} {xs : List α} : atI xs 1 = xs[1]? := atI_nat (k := 1)
@[simp] theorem atI_2 {α : Type} {xs : List α} : atI xs 2 = xs[2]? := atI_nat (k := 2)
theorem atI_mapF {α β : Type} {f : α → β} {xs : List α} {i : Int} : atI (xs.map f) i = (atI xs i).map f := by
  unfold atI
  rw [List.length_map]
  cases ixN xs.length i with
  | none => rfl
  | some j => simp
theorem atI_some {α : Type} {xs : List α} {i : Int} (h0 : 0 ≤ i) (h : i < xs.length) : ∃ x, atI xs i = some x ∧ x ∈ xs := by
  rw [atI_pos h0]
  exact ⟨xs[i.toNat]'(by omega), List.getElem?_eq_getElem _, List.getElem_mem _⟩
theorem idxO_ints {a : Int} {ns : List Int} : idxO (ns.map .int) (.int a) = ns.findIdx? (· == a) := by
  unfold idxO
  rw [if_pos (by simp [flatD])]
  rw [List.findIdx?_map]
  congr 1
theorem idxO_mem {a : Int} {ns : List Int} (h : a ∈ ns) : idxO (ns.map .int) (.int a) = some (ns.idxOf a) := by
  rw [idxO_ints, List.findIdx?_eq_some_of_exists ⟨a, h, by simp⟩]
  rfl
/-! ### cuts -/
def cutI {α : Type} (xs : List α) (lo hi : Option Int) : List α := (xs.drop (HT.sIx xs.length 0 lo)).take (HT.sIx xs.length xs.length hi - HT.sIx xs.length 0 lo)
theorem cutD_map {α : Type} {f : α → PyData} {xs : List α} {lo hi : Option Int} : cutD (xs.map f) lo hi = (cutI xs lo hi).map f := by
  unfold cutD cutI
  simp [List.map_drop, List.map_take]
theorem sIx_nat {n d k : Nat} : HT.sIx n d (some (k : Int)) = min k n := by
  unfold HT.sIx
  simp
  try omega
theorem sIx_none {n d : Nat} : HT.sIx n d none = d := rfl
theorem cut_to {α : Type} {xs : List α} {k : Nat} : cutI xs none (some (k : Int)) = xs.take k := by
  unfold cutI
  rw [sIx_nat, sIx_none]
  simp
theorem cut_from {α : Type} {xs : List α} {k : Nat} : cutI xs (some (k : Int)) none = xs.drop k := by
  unfold cutI
  rw [sIx_nat, sIx_none]
  by_cases h : k ≤ xs.length
  · rw [Nat.min_eq_left h]
    apply List.take_of_length_le
    simp
  · rw [Nat.min_eq_right (by omega)]
    simp
    omega
theorem cut_mid {α : Type} {xs : List α} {k j : Nat} : cutI xs (some (k : Int)) (some (j : Int)) = (xs.take j).drop k := by
  unfold cutI
  rw [sIx_nat, sIx_nat]
  rw [List.drop_take]
  by_cases h : k ≤ xs.length
  · rw [Nat.min_eq_left h]
    by_cases h2 : j ≤ xs.length
    · rw [Nat.min_eq_left h2]
    · rw [Nat.min_eq_right (by omega), List.take_of_length_le (by simp), List.take_of_length_le (by simp; omega)]
  · rw [Nat.min_eq_right (by omega : xs.length ≤ k)]
    simp [List.drop_of_length_le (by omega : xs.length ≤ k)]
/-! ### a set's length -/
theorem nub_len {ns : List Int} (h : ns.Nodup) : (nubI ns).length = ns.length := by
  unfold nubI
  have key : ∀ (i : Nat), i ≤ ns.length → PyProof.Rows.firstMet (fun i => ns.getD i 0) i = ns.take i := by
    intro i
    induction i with
    | zero => intro _; simp [PyProof.Rows.firstMet_zero]
    | succ i ih =>
      intro hi
      rw [PyProof.Rows.firstMet_succ, ih (by omega)]
      have e : ns.getD i 0 = ns[i] := by simp [List.getD_eq_getElem?_getD, List.getElem?_eq_getElem (by omega : i < ns.length)]
      rw [e, List.take_add_one, List.getElem?_eq_getElem (by omega : i < ns.length)]
      unfold PyProof.Rows.step_dedup
      have nin : ((ns.take i).any (· == ns[i])) = false := by
        rw [Bool.eq_false_iff]
        intro hc
        simp only [List.any_eq_true, beq_iff_eq, List.mem_take_iff_getElem] at hc
        obtain ⟨x, ⟨j, hj, rfl⟩, e⟩ := hc
        have := (List.getElem_inj h).mp e
        omega
      first
        | (rw [if_neg (by simp [nin])]; rfl)
        | (simp only [nin]; rfl)
        | simp_all
  rw [key _ (Nat.le_refl _), List.take_length]
/-! ### bounds -/
theorem log_lt {a : Int} {k : Nat} (h : a.natAbs < 2 ^ (k + 1)) : a.natAbs.log2 ≤ k := by
  by_cases h0 : a.natAbs = 0
  · rw [h0]; exact Nat.zero_le _
  · have := (Nat.log2_lt h0).mpr h
    omega
theorem log_small {a : Int} (h0 : -(2 ^ 200) < a) (h : a < 2 ^ 200) : a.natAbs.log2 < 200 := by
  have : a.natAbs < 2 ^ (199 + 1) := by
    have : (a.natAbs : Int) < 2 ^ 200 := by omega
    exact_mod_cast this
  have := log_lt this
  omega
theorem fdiv_ok {a b : Int} (h : 0 < b) (h2 : b < 2 ^ 200) : fdivO (.int a) (.int b) = some (.val (.int (a / b))) := by
  have := log_small (by omega) h2
  rw [x_fdiv, if_pos ⟨h, by unfold lgD; omega⟩]
theorem mod_ok {a b : Int} (h : 0 < b) : modO (.int a) (.int b) = some (.val (.int (a % b))) := by
  rw [x_mod, if_pos h]
theorem mul_ok {a b : Int} (h0 : -(2 ^ 200) < a) (h : a < 2 ^ 200) (h1 : -(2 ^ 200) < b) (h2 : b < 2 ^ 200) : mulO (.int a) (.int b) = some (.val (.int (a * b))) := by
  have := log_small h0 h
  have := log_small h1 h2
  rw [x_mul, if_pos (by unfold lgM; omega)]
@[simp] theorem pow_ok {a b : Int} (h0 : -(2 ^ 200) < a) (h : a < 2 ^ 200) (h1 : 0 ≤ b) (h2 : b ≤ 30000) : powO (.int a) (.int b) = some (.val (.int (a ^ b.toNat))) := by
  have := log_small h0 h
  rw [x_pow, if_pos ⟨h1, h2, by unfold lgP; omega⟩]
@[simp] theorem fdiv_lit {a : Int} {k : Nat} (h : 0 < k) (h2 : k < 2 ^ 200) : fdivO (.int a) (.int (no_index (OfNat.ofNat k))) = some (.val (.int (a / (OfNat.ofNat k)))) := fdiv_ok (by
    show (0 : Int) < (k : Int)
    omega) (by
    show (k : Int) < 2 ^ 200
    omega)
@[simp] theorem mod_lit {a : Int} {k : Nat} (h : 0 < k) : modO (.int a) (.int (no_index (OfNat.ofNat k))) = some (.val (.int (a % (OfNat.ofNat k)))) := mod_ok (by
    show (0 : Int) < (k : Int)
    omega)
/-! ### loops and comprehensions over the images of a list -/
theorem loopF_fold {α β : Type} {b : Bd} {p : DSt → Flow} {f : α → PyData} {l : List α} (st : β → DSt) (step : β → α → β) (x : β) (h : ∀ a ∈ l, ∀ x, ∃ s1, b (f a) (st x) = some s1 ∧ p s1 = .next (st (step x a))) : loopF b p (l.map f) (st x) = .next (st (l.foldl step x)) := by
  induction l generalizing x with
  | nil => rfl
  | cons a l ih =>
    obtain ⟨s1, e1, e2⟩ := h a List.mem_cons_self x
    rw [List.map_cons]
    unfold loopF
    simp only [e1, e2]
    exact ih _ fun a ha x => h a (List.mem_cons_of_mem _ ha) x
/-- an invariant that knows the items done -/
theorem loopF_map {α : Type} {b : Bd} {p : DSt → Flow} {f : α → PyData} {l : List α} {s : DSt} (Inv : Nat → DSt → Prop) (h0 : Inv 0 s) (step : ∀ (i : Nat) (a : α) (s : DSt), l[i]? = some a → Inv i s → ∃ s1 s2, b (f a) s = some s1 ∧ p s1 = .next s2 ∧ Inv (i + 1) s2) : ∃ s', loopF b p (l.map f) s = .next s' ∧ Inv l.length s' := by
  have := loopF_inv (b := b) (p := p) (ds := l.map f) Inv h0 fun i d s hd h => by
    rw [List.getElem?_map] at hd
    cases e : l[i]? with
    | none => rw [e] at hd; cases hd
    | some a =>
      rw [e] at hd
      cases hd
      exact step i a s e h
  rw [List.length_map] at this
  exact this
/-- it ends as said -/
def Nx (x : Flow) (Q : DSt → Prop) : Prop := ∃ s, x = .next s ∧ Q s
@[simp] theorem nx_next {s : DSt} {Q : DSt → Prop} : Nx (.next s) Q ↔ Q s := ⟨fun ⟨_, e, h⟩ => by cases e; exact h, fun h => ⟨s, rfl, h⟩⟩
def bod (b : Bd) (p : DSt → Flow) (d : PyData) (s : DSt) : Flow := match b d s with
  | some s' => p s'
  | none => .stuck
@[simp] theorem x_bod {b : Bd} {p : DSt → Flow} {d : PyData} {s : DSt} : bod b p d s = (match b d s with | some s' => p s' | none => .stuck) := Eq.trans rfl rfl
theorem loopN {α : Type} {b : Bd} {p : DSt → Flow} {f : α → PyData} {l : List α} {s : DSt} (Inv : Nat → DSt → Prop) (h0 : Inv 0 s) (step : ∀ (i : Nat) (a : α) (s : DSt), l[i]? = some a → a ∈ l → Inv i s → Nx (bod b p (f a) s) (Inv (i + 1))) : ∃ s', loopF b p (l.map f) s = .next s' ∧ Inv l.length s' :=
  loopF_map Inv h0 fun i a s hi h => by
    obtain ⟨s2, e, h2⟩ := step i a s hi (List.mem_of_getElem? hi) h
    unfold bod at e
    split at e
    · rename_i s1 e1
      exact ⟨s1, s2, e1, e, h2⟩
    · cases e
theorem take_succ {α : Type} {l : List α} {i : Nat} {a : α} (h : l[i]? = some a) : l.take (i + 1) = l.take i ++ [a] := by
  rw [List.take_add_one, h]
  rfl
theorem take_succ_map {α β : Type} {l : List α} {i : Nat} {a : α} {f : α → β} (h : l[i]? = some a) : (l.map f).take (i + 1) = (l.map f).take i ++ [f a] := take_succ (by rw [List.getElem?_map, h]; rfl)
theorem range_at {n i a : Nat} (h : (List.range n)[i]? = some a) : a = i ∧ i < n := by
  have hi : i < n := by have := (List.getElem?_eq_some_iff.mp h).1; simpa using this
  simp [hi] at h
  exact ⟨h.symm, hi⟩
/-- a loop that goes on where ok, and hands r back where not -/
theorem loopAll {α : Type} {b : Bd} {p : DSt → Flow} {f : α → PyData} {l : List α} {s : DSt} (ok : α → Bool) (r : R) (Inv Post : DSt → Prop) (h0 : Inv s) (step : ∀ a ∈ l, ∀ s, Inv s → (ok a = true → Nx (bod b p (f a) s) Inv) ∧ (ok a = false → ∃ s', bod b p (f a) s = .ret r s' ∧ Post s')) :
    (l.all ok = true → ∃ s', loopF b p (l.map f) s = .next s' ∧ Inv s') ∧ (l.all ok = false → ∃ s', loopF b p (l.map f) s = .ret r s' ∧ Post s') := by
  induction l generalizing s with
  | nil => exact ⟨fun _ => ⟨s, rfl, h0⟩, fun h => by simp at h⟩
  | cons a l ih =>
    obtain ⟨h1, h2⟩ := step a List.mem_cons_self s h0
    have un : ∀ x, bod b p (f a) s = x → loopF b p ((a :: l).map f) s = (match x with | .next s2 => loopF b p (l.map f) s2 | .cnt s2 => loopF b p (l.map f) s2 | .brk s2 => .next s2 | y => y) := fun x e => by
      rw [List.map_cons]
      conv => lhs; unfold loopF
      unfold bod at e
      cases hb : b (f a) s with
      | none => rw [hb] at e; subst e; rfl
      | some s1 =>
        rw [hb] at e
        dsimp only at e ⊢
        rw [e]
        cases x <;> rfl
    cases k : ok a with
    | true =>
      obtain ⟨s2, e, hi⟩ := h1 k
      have := ih hi fun a ha => step a (List.mem_cons_of_mem _ ha)
      rw [un _ e]
      simpa [k] using this
    | false =>
      obtain ⟨s2, e, hp⟩ := h2 k
      rw [un _ e]
      simp only [List.all_cons, k, Bool.false_and]
      exact ⟨fun h => by simp at h, fun _ => ⟨s2, rfl, hp⟩⟩
theorem loopC_gen {α : Type} {b : Bd} {ft : M Bool} {fe : M R} {vs : List Nat} {s : DSt} {f : α → PyData} (sb : α → DSt) (keep : α → Bool) (g : α → PyData) (hn : noOwn vs s.d = true) : ∀ (l : List α) (acc : List PyData),
    (∀ a ∈ l, b (f a) ⟨blank vs s.d, s.w⟩ = some (sb a)) → (∀ a ∈ l, (⟨putBack vs s.d (sb a).d, (sb a).w⟩ : DSt) = s) → (∀ a ∈ l, ft (sb a) = .ok (keep a) (sb a)) → (∀ a ∈ l, keep a = true → (fe (sb a)).bind fEsc = .ok (.val (g a)) (sb a)) →
    loopC b ft fe vs (l.map f) acc s = .ok (acc ++ (l.filter keep).map g) s
  | [], acc, _, _, _, _ => by simp [loopC]
  | d :: ds, acc, h1, h2, h3, h4 => by
    have ih := fun acc => loopC_gen sb keep g hn ds acc (fun d hd => h1 d (List.mem_cons_of_mem _ hd)) (fun d hd => h2 d (List.mem_cons_of_mem _ hd)) (fun d hd => h3 d (List.mem_cons_of_mem _ hd)) (fun d hd => h4 d (List.mem_cons_of_mem _ hd))
    have e1 := h1 d List.mem_cons_self
    have e2 := h2 d List.mem_cons_self
    have e3 := h3 d List.mem_cons_self
    rw [List.map_cons]
    unfold loopC
    rw [if_pos hn, e1]
    dsimp only
    rw [e3]
    cases k : keep d with
    | false =>
      show loopC b ft fe vs (ds.map f) acc _ = _
      rw [e2, ih]
      simp [k]
    | true =>
      have e4 := h4 d List.mem_cons_self k
      show (nerr (bnd fe fEsc (sb d))).bind _ = _
      rw [bnd_app, e4]
      show loopC b ft fe vs (ds.map f) (acc ++ [g d]) _ = _
      rw [e2, ih]
      simp [k]
theorem lc_gen {α : Type} {fi : M (List PyData)} {b : Bd} {ft : M Bool} {fe : M R} {vs : List Nat} {s s1 : DSt} {f : α → PyData} {l : List α} (sb : α → DSt) (keep : α → Bool) (g : α → PyData) (hi : fi s = .ok (l.map f) s1) (hl : l.length ≤ 100000) (hn : noOwn vs s1.d = true)
    (h1 : ∀ a ∈ l, b (f a) ⟨blank vs s1.d, s1.w⟩ = some (sb a)) (h2 : ∀ a ∈ l, (⟨putBack vs s1.d (sb a).d, (sb a).w⟩ : DSt) = s1) (h3 : ∀ a ∈ l, ft (sb a) = .ok (keep a) (sb a)) (h4 : ∀ a ∈ l, keep a = true → (fe (sb a)).bind fEsc = .ok (.val (g a)) (sb a)) :
    fLc fi b ft fe vs s = .ok (.new ((l.filter keep).map g)) s1 := by
  have hl2 : leS (l.map f).length := by rw [List.length_map]; exact size_le hl
  unfold fLc
  simp only [bnd_app, hi, bind_ok, if_pos hl2]
  rw [loopC_gen sb keep g hn l [] h1 h2 h3 h4]
  simp
theorem lc_all {α : Type} {fi : M (List PyData)} {b : Bd} {fe : M R} {vs : List Nat} {s s1 : DSt} {f : α → PyData} {l : List α} (sb : α → DSt) (g : α → PyData) (hi : fi s = .ok (l.map f) s1) (hl : l.length ≤ 100000) (hn : noOwn vs s1.d = true)
    (h1 : ∀ a ∈ l, b (f a) ⟨blank vs s1.d, s1.w⟩ = some (sb a)) (h2 : ∀ a ∈ l, (⟨putBack vs s1.d (sb a).d, (sb a).w⟩ : DSt) = s1) (h4 : ∀ a ∈ l, (fe (sb a)).bind fEsc = .ok (.val (g a)) (sb a)) :
    fLc fi b fYes fe vs s = .ok (.new (l.map g)) s1 := by
  rw [lc_gen (ft := fYes) sb (fun _ => true) g hi hl hn h1 h2 (fun _ _ => rfl) (fun a ha _ => h4 a ha), List.filter_eq_self.mpr (fun _ _ => rfl)]
theorem perm_map_inv {α β : Type} {f : α → β} : ∀ {xs ys : List β}, xs.Perm ys → ∀ {l : List α}, ys = l.map f → ∃ m : List α, xs = m.map f ∧ m.Perm l := by
  intro xs ys h
  induction h with
  | nil => intro l e; exact ⟨l, e, .refl _⟩
  | cons x h ih =>
    intro l e
    cases l with
    | nil => cases e
    | cons a l =>
      cases e
      obtain ⟨m, rfl, hm⟩ := ih rfl
      exact ⟨a :: m, rfl, hm.cons a⟩
  | swap x y l' =>
    intro l e
    match l, e with
    | a :: b :: l, e =>
      cases e
      exact ⟨b :: a :: l, rfl, .swap a b l⟩
  | trans h1 h2 ih1 ih2 =>
    intro l e
    obtain ⟨m, rfl, hm⟩ := ih2 e
    obtain ⟨m2, e2, hm2⟩ := ih1 rfl
    exact ⟨m2, e2, hm2.trans hm⟩
/-! ### loops whose states are known -/
theorem loopF_eq {b : Bd} {p : DSt → Flow} {ds : List PyData} (st : Nat → DSt) (step : ∀ (i : Nat) (d : PyData), ds[i]? = some d → ∃ s1, b d (st i) = some s1 ∧ p s1 = .next (st (i + 1))) : loopF b p ds (st 0) = .next (st ds.length) := by
  obtain ⟨s', e, h⟩ := loopF_inv (b := b) (p := p) (ds := ds) (fun i s => s = st i) rfl fun i d s hd h => by
    subst h
    obtain ⟨s1, e1, e2⟩ := step i d hd
    exact ⟨s1, _, e1, e2, rfl⟩
  rw [e, h]
end DL

/-! DL18: more pieces: three at once; sorted(set(..)) -/
noncomputable section
namespace DL
open PySem L2 PyProof.Rows
open Evl (Ex)
section
variable {X : Cx} {cl : String → Addr} {W : WX} {e a b c : Expr} {es : List Expr} {f g : M R} {fs : M (List R)} {pos : Pos} {p q : DSt → Flow}
/-- x, y, z = a, b, c -/
def kPar3 (i j l : Nat) (rs : List R) (s : DSt) : Flow := match rs with
  | [r1, r2, r3] => if i < s.d.length ∧ j < s.d.length ∧ l < s.d.length then .next (putS l (toSl r3) (putS j (toSl r2) (putS i (toSl r1) s))) else .stuck
  | _ => .stuck
@[simp] theorem y_kPar3 (i j l : Nat) (rs : List R) (s : DSt) : kPar3 i j l rs s = (match rs with | [r1, r2, r3] => if i < s.d.length ∧ j < s.d.length ∧ l < s.d.length then .next (putS l (toSl r3) (putS j (toSl r2) (putS i (toSl r1) s))) else .stuck | _ => .stuck) := Eq.trans rfl rfl
def fPar3 (i j l : Nat) (fs : M (List R)) : DSt → Flow := fun s => onRes (fs s) (kPar3 i j l)
@[simp] theorem x_par3 {i j l : Nat} {s : DSt} : fPar3 i j l fs s = onRes (fs s) (kPar3 i j l) := Eq.trans rfl rfl
theorem s_par3 {i j l : Nat} {x y z : Str} {px py pz pt : Pos} {kt k2 pt2} (hc : X.calm = true) (hN : X.N.Nodup) (hi : X.N[i]? = some x) (hj : X.N[j]? = some y) (hl : X.N[l]? = some z) (hij : i ≠ j) (hil : i ≠ l) (hjl : j ≠ l)
    (hx : X.env.scope.names.lookup x = some .local) (hy : X.env.scope.names.lookup y = some .local) (hz : X.env.scope.names.lookup z = some .local) (ha : DAe X cl W [a, b, c] fs)
    (hw : swappedStores [.Tuple [.Name x px, .Name y py, .Name z pz] kt pt] (.Tuple [a, b, c] k2 pt2) X.env = pure (some [x, y, z]))
    (hs : swapsWithSole [.Tuple [.Name x px, .Name y py, .Name z pz] kt pt] (.Tuple [a, b, c] k2 pt2) pos.line X.env = pure false := by rfl) :
    DS X cl W (.Assign [.Tuple [.Name x px, .Name y py, .Name z pz] kt pt] (.Tuple [a, b, c] k2 pt2) pos) (fPar3 i j l fs) := by
  refine ps_imp (ps_par3 hc hN hi hj hl hij hil hjl hx hy hz ha hw hs) fun D σ H ⟨G, s, S, h⟩ => ⟨G, s, S, ?_⟩
  refine out_mono (fout_res h) fun rs G1 s1 H1 st1 S1 k vs hv => ?_
  unfold kPar3 at k
  split at k
  · rename_i r1 r2 r3
    split at k
    · rename_i hl
      cases hv with
      | cons h1 h2 =>
        cases h2 with
        | cons h2 h3 =>
          cases h3 with
          | cons h3 h4 =>
            cases h4
            rename_i v1 v2 v3
            refine ⟨_, _, _, rfl, ?_⟩
            have S2 := put_ok S1 hl.1 (ar_sl (H := H1) h1) (fun ds a z _ => absurd z no_own)
            have st2 : Stp G s σ H G1 (putS i (toSl r1) s1) (σ.set i (some v1)) H1 := put_stp S1 st1 hl.1 (x := toSl r1) (fun ds a z _ => absurd z no_own)
            have hl2 : j < (putS i (toSl r1) s1).d.length := by simpa [putS] using hl.2.1
            have S3 := put_ok S2 hl2 (ar_sl (H := H1) h2) (fun ds a z _ => absurd z no_own)
            have st3 : Stp G s σ H G1 (putS j (toSl r2) (putS i (toSl r1) s1)) ((σ.set i (some v1)).set j (some v2)) H1 := put_stp S2 st2 hl2 (x := toSl r2) (fun ds a z _ => absurd z no_own)
            have hl3 : l < (putS j (toSl r2) (putS i (toSl r1) s1)).d.length := by simpa [putS] using hl.2.2
            exact k G1 _ H1 (put_stp S3 st3 hl3 (fun ds a z _ => absurd z no_own)) (put_ok S3 hl3 (ar_sl h3) (fun ds a z _ => absurd z no_own))
    · exact k.elim
  · exact k.elim
end
/-! ### loops with a state, that may hand back -/
def foldS {α β : Type} (step : β → α → Sum β R) : β → List α → Sum β R
  | x, [] => .inl x
  | x, a :: l => match step x a with
    | .inl y => foldS step y l
    | .inr r => .inr r
theorem loopS {α β : Type} {b : Bd} {p : DSt → Flow} {f : α → PyData} {l : List α} {s : DSt} {x : β} (step : β → α → Sum β R) (Inv : β → DSt → Prop) (Post : R → DSt → Prop) (h0 : Inv x s)
    (h : ∀ a ∈ l, ∀ x s, Inv x s → (∀ y, step x a = .inl y → Nx (bod b p (f a) s) (Inv y)) ∧ (∀ r, step x a = .inr r → ∃ s', bod b p (f a) s = .ret r s' ∧ Post r s')) :
    (∀ y, foldS step x l = .inl y → ∃ s', loopF b p (l.map f) s = .next s' ∧ Inv y s') ∧ (∀ r, foldS step x l = .inr r → ∃ s', loopF b p (l.map f) s = .ret r s' ∧ Post r s') := by
  induction l generalizing s x with
  | nil => exact ⟨fun y e => by cases e; exact ⟨s, rfl, h0⟩, fun r e => by cases e⟩
  | cons a l ih =>
    obtain ⟨h1, h2⟩ := h a List.mem_cons_self x s h0
    have un : ∀ x, bod b p (f a) s = x → loopF b p ((a :: l).map f) s = (match x with | .next s2 => loopF b p (l.map f) s2 | .cnt s2 => loopF b p (l.map f) s2 | .brk s2 => .next s2 | y => y) := fun x e => by
      rw [List.map_cons]
      conv => lhs; unfold loopF
      unfold bod at e
      cases hb : b (f a) s with
      | none => rw [hb] at e; subst e; rfl
      | some s1 =>
        rw [hb] at e
        dsimp only at e ⊢
        rw [e]
        cases x <;> rfl
    cases k : step x a with
    | inl y =>
      obtain ⟨s2, e, hi⟩ := h1 y k
      have := ih (x := y) hi fun a ha => h a (List.mem_cons_of_mem _ ha)
      rw [un _ e]
      have ef : foldS step x (a :: l) = foldS step y l := by
        conv => lhs; unfold foldS
        rw [k]
      rw [ef]
      exact this
    | inr r =>
      obtain ⟨s2, e, hp⟩ := h2 r k
      rw [un _ e]
      have ef : foldS step x (a :: l) = .inr r := by
        conv => lhs; unfold foldS
        rw [k]
      rw [ef]
      exact ⟨fun y e => by (cases e), fun r2 e => by cases e; exact ⟨s2, rfl, hp⟩⟩
/-- .. that knows how many items are done -/
theorem loopSi {α β : Type} {b : Bd} {p : DSt → Flow} {f : α → PyData} {l : List α} {s : DSt} {x : β} (step : β → α → Sum β R) (Inv : Nat → β → DSt → Prop) (Post : R → DSt → Prop) (h0 : Inv 0 x s)
    (h : ∀ i a, l[i]? = some a → a ∈ l → ∀ x s, Inv i x s → (∀ y, step x a = .inl y → Nx (bod b p (f a) s) (Inv (i + 1) y)) ∧ (∀ r, step x a = .inr r → ∃ s', bod b p (f a) s = .ret r s' ∧ Post r s')) :
    (∀ y, foldS step x l = .inl y → ∃ s', loopF b p (l.map f) s = .next s' ∧ Inv l.length y s') ∧ (∀ r, foldS step x l = .inr r → ∃ s', loopF b p (l.map f) s = .ret r s' ∧ Post r s') := by
  induction l generalizing s x Inv with
  | nil => exact ⟨fun y e => by cases e; exact ⟨s, rfl, h0⟩, fun r e => by cases e⟩
  | cons a l ih =>
    obtain ⟨h1, h2⟩ := h 0 a rfl List.mem_cons_self x s h0
    have un : ∀ x, bod b p (f a) s = x → loopF b p ((a :: l).map f) s = (match x with | .next s2 => loopF b p (l.map f) s2 | .cnt s2 => loopF b p (l.map f) s2 | .brk s2 => .next s2 | y => y) := fun x e => by
      rw [List.map_cons]
      conv => lhs; unfold loopF
      unfold bod at e
      cases hb : b (f a) s with
      | none => rw [hb] at e; subst e; rfl
      | some s1 =>
        rw [hb] at e
        dsimp only at e ⊢
        rw [e]
        cases x <;> rfl
    cases k : step x a with
    | inl y =>
      obtain ⟨s2, e, hi⟩ := h1 y k
      have := ih (x := y) (Inv := fun i => Inv (i + 1)) hi fun i a hi ha => h (i + 1) a (by simpa using hi) (List.mem_cons_of_mem _ ha)
      rw [un _ e]
      have ef : foldS step x (a :: l) = foldS step y l := by
        conv => lhs; unfold foldS
        rw [k]
      rw [ef]
      exact this
    | inr r =>
      obtain ⟨s2, e, hp⟩ := h2 r k
      rw [un _ e]
      have ef : foldS step x (a :: l) = .inr r := by
        conv => lhs; unfold foldS
        rw [k]
      rw [ef]
      exact ⟨fun y e => by (cases e), fun r2 e => by cases e; exact ⟨s2, rfl, hp⟩⟩
/-- the first that answers -/
theorem loopFind {α : Type} {b : Bd} {p : DSt → Flow} {f : α → PyData} {l : List α} {s : DSt} (res : α → Option R) (Inv : DSt → Prop) (Post : R → DSt → Prop) (h0 : Inv s)
    (h : ∀ a ∈ l, ∀ s, Inv s → (res a = none → Nx (bod b p (f a) s) Inv) ∧ (∀ r, res a = some r → ∃ s', bod b p (f a) s = .ret r s' ∧ Post r s')) :
    (l.findSome? res = none → ∃ s', loopF b p (l.map f) s = .next s' ∧ Inv s') ∧ (∀ r, l.findSome? res = some r → ∃ s', loopF b p (l.map f) s = .ret r s' ∧ Post r s') := by
  have e : ∀ l : List α, foldS (fun (_ : Unit) a => match res a with | none => .inl () | some r => .inr r) () l = (match l.findSome? res with | none => .inl () | some r => .inr r) := by
    intro l
    induction l with
    | nil => rfl
    | cons a l ih =>
      unfold foldS
      rw [List.findSome?_cons]
      cases res a with
      | none => exact ih
      | some r => rfl
  have q := loopS (b := b) (p := p) (f := f) (l := l) (s := s) (x := ()) (fun (_ : Unit) a => match res a with | none => .inl () | some r => .inr r) (fun _ => Inv) Post h0 fun a ha x s hs => by
    obtain ⟨h1, h2⟩ := h a ha s hs
    refine ⟨fun y ey => ?_, fun r er => ?_⟩
    · cases k : res a with
      | none => exact h1 k
      | some r => rw [k] at ey; cases ey
    · cases k : res a with
      | none => rw [k] at er; cases er
      | some r' => rw [k] at er; cases er; exact h2 r k
  rw [e] at q
  refine ⟨fun k => ?_, fun r k => ?_⟩
  · rw [k] at q
    exact q.1 () rfl
  · rw [k] at q
    exact q.2 r rfl
theorem max_ints {ns : List Int} (h : ns ≠ []) : maxO [.list (ns.map .int)] = some (.val (.int (maxI ns))) := by
  cases ns with
  | nil => exact absurd rfl h
  | cons n ns =>
    show (match intsD ((n :: ns).map .int) with | some (n :: ns) => some (R.val (.int (maxI (n :: ns)))) | _ => none) = _
    rw [intsD_map]
theorem min_ints {ns : List Int} (h : ns ≠ []) : minO [.list (ns.map .int)] = some (.val (.int (minI ns))) := by
  cases ns with
  | nil => exact absurd rfl h
  | cons n ns =>
    show (match intsD ((n :: ns).map .int) with | some (n :: ns) => some (R.val (.int (minI (n :: ns)))) | _ => none) = _
    rw [intsD_map]
end DL

/-! DL19: e[:0:-1]; list(range(..)); sorted(set(..)) of ints -/
noncomputable section
namespace DL
open PySem L2 PyProof.Rows
open Evl (Ex)
/-! ### e[:0:-1] -/
theorem pick_to0 (items : Array Value) : slicePick items none (some 0) (some (-1)) = (items.toList.drop 1).reverse.toArray := by
  unfold slicePick
  have eb : sliceBounds none (some 0) (some (-1)) items.size = ((items.size : Int) - 1, max (-1) (min 0 ((items.size : Int) - 1)), -1) := rfl
  rw [eb]
  show ((sliceRange ((items.size : Int) - 1) (max (-1) (min 0 ((items.size : Int) - 1))) (-1)).filterMap (items[·]?)).toArray = _
  congr 1
  obtain ⟨l⟩ := items
  show (sliceRange ((l.length : Int) - 1) (max (-1) (min 0 ((l.length : Int) - 1))) (-1)).filterMap (fun i => l.toArray[i]?) = (l.drop 1).reverse
  have er : sliceRange ((l.length : Int) - 1) (max (-1) (min 0 ((l.length : Int) - 1))) (-1) = (List.range (l.length - 1)).map fun k => l.length - 1 - k := by
    unfold sliceRange
    rw [if_neg (by decide)]
    by_cases h : 2 ≤ l.length
    · rw [if_pos (by omega)]
      have e2 : ((l.length : Int) - 1 - max (-1) (min 0 ((l.length : Int) - 1)) - -1 - 1) / (- -1) = ((l.length - 1 : Nat) : Int) := by
        rw [show (- -1 : Int) = 1 by decide, Int.ediv_one]
        omega
      rw [e2]
      show (List.range (((l.length - 1 : Nat) : Int)).toNat).map _ = _
      rw [Int.toNat_natCast]
      refine List.map_congr_left fun k hk => ?_
      have := List.mem_range.mp hk
      omega
    · rw [if_neg (by omega)]
      have : l.length - 1 = 0 := by omega
      rw [this] <;> rfl
  rw [er, List.filterMap_map]
  apply List.ext_getElem?
  intro i
  have full : ∀ n, n ≤ l.length - 1 → (List.range n).filterMap ((fun i => l.toArray[i]?) ∘ fun k => l.length - 1 - k) = (List.range n).map fun k => l.getD (l.length - 1 - k) default := by
    intro n hn
    induction n with
    | zero => rfl
    | succ n ih =>
      rw [List.range_succ, List.filterMap_append, List.map_append, ih (by omega)]
      have : l.length - 1 - n < l.length := by omega
      simp [this, List.getD_eq_getElem?_getD]
  rw [full _ (Nat.le_refl _)]
  by_cases hi : i < l.length - 1
  · rw [List.getElem?_map, List.getElem?_range hi, List.getElem?_reverse (by simp; omega), List.getElem?_drop]
    have e3 : 1 + ((l.drop 1).length - 1 - i) = l.length - 1 - i := by simp; omega
    have : l.length - 1 - i < l.length := by omega
    rw [e3]
    simp [List.getD_eq_getElem?_getD, this]
  · rw [List.getElem?_eq_none (by simp; omega), List.getElem?_eq_none (by simp; omega)]
section
variable {X : Cx} {cl : String → Addr} {W : WX} {e a b c : Expr} {es : List Expr} {f g : M R} {fs : M (List R)} {pos : Pos} {p q : DSt → Flow}
def tRevTo (K : PySem.W.Frag) (te : TE) : TE := fun σ H Q => te σ H fun x H1 => ∃ a xs, x = .ref a ∧ SqL K H1 a xs ∧ ∀ p, H1 p = none → Q (.ref p) (upd H1 p (.lst (xs.drop 1).reverse))
theorem pe_revTo {te : TE} {k k0 : Nat} {p0 p1 p2 p3 : Pos} (he : PE X e te) : PE X (.Subscript e (.Slice none (some (.Constant (.int 0) k0 p0)) (some (.UnaryOp .USub (.Constant (.int 1) k p1) p2)) p3) pos) (tRevTo X.K te) := by
  refine ⟨fun pins s σ H Q I h => Subscript_ (thn (he.run pins s σ H _ I h) fun v s1 ⟨x, H1, I1, r1, q1⟩ => ?_)⟩
  obtain ⟨a, xs, rfl, hx, q⟩ := q1
  cases r1
  have p3' : PO X (some (.UnaryOp .USub (.Constant (.int 1) k p1) p2)) (tPart (tUn (rU fun i => .int (-i)) (tC (.int 1)))) := po_some (pe_un un_neg pe_int)
  have p2' : PO X (some (.Constant (.int 0) k0 p0)) (tPart (tC (.int 0))) := po_some pe_int
  refine wpAny_Slice (thn (po_none.run pins s1 σ H1 (fun o H2 => o = none ∧ H2 = H1) I1 ⟨rfl, rfl⟩) fun vl s2 ⟨l, H2, I2, pl, el, e2⟩ => ?_)
  subst el e2
  refine thn (p2'.run pins s2 σ H2 (fun o H3 => o = some 0 ∧ H3 = H2) I2 ⟨0, rfl, rfl, rfl⟩) fun vu s3 ⟨u, H3, I3, pu, eu, e3⟩ => ?_
  subst eu e3
  refine thn (p3'.run pins s3 σ H3 (fun o H4 => o = some (-1) ∧ H4 = H3) I3 ⟨1, rfl, -1, rfl, rfl, rfl⟩) fun vs s4 ⟨o, H4, I4, ps, eo, e4⟩ => ?_
  subst eo e4
  have J : Inv X pins σ H4 { s4 with heap := s4.heap.push { cls := .type "slice", data := .fields #[vl, vu, vs] } } := I4.kept (t' := s4.toks) fun _ _ z => Heap.get?_push_of_some _ z
  obtain ⟨its, r, ht, hz⟩ := J.list hx
  have hlen := r.length
  show wpAny (model X.prog X.w) X.A (subscriptTail e _ (.ref a) (.ref s4.heap.objs.size)) (EP X pins σ Q) X.xe _
  refine tail_any (ops := [.ref a, .ref s4.heap.objs.size]) ht.isList.typeIs PySem.slot_list_getitem.lookup ?_ (by with_unfolding_all rfl)
  refine wpAny_getItem_list_slice ht.isList (Heap.IsSliceOf.new _ vl vu vs) pl pu ps (by decide) ?_ (by rw [List.size_toArray]; omega)
  rw [pick_to0]
  refine ⟨.ref _, _, J.laid (t' := s4.toks) (o := .lst (xs.drop 1).reverse) (fun _ _ z => Heap.get?_push_of_some _ z) (Nat.le_refl _) ?_, rfl, q _ (J.hok.fresh (Nat.le_refl _))⟩
  refine ⟨?_, _, 0, ?_, Heap.get?_push_size _ rfl⟩
  · rw [List.length_reverse, List.length_drop]; omega
  · exact (r.drop 1).reverse
def revToO : PyData → Option R
  | .list ds => some (.new (ds.drop 1).reverse)
  | _ => none
@[simp] theorem x_revTo {ds : List PyData} : revToO (.list ds) = some (.new (ds.drop 1).reverse) := Eq.trans rfl rfl
theorem d_revTo {k k0 : Nat} {p0 p1 p2 p3 : Pos} (ha : DE X cl W e f) : DE X cl W (.Subscript e (.Slice none (some (.Constant (.int 0) k0 p0)) (some (.UnaryOp .USub (.Constant (.int 1) k p1) p2)) p3) pos) (fUn (lift1 revToO) f) := by
  refine pe_imp (pe_revTo ha) fun σ H Q ⟨G, s, S, q⟩ => ?_
  refine ⟨G, s, S, out_mono (out_bind q) fun x G1 s1 H1 st1 S1 q1 v1 r1 => ?_⟩
  unfold lift1 at q1
  split at q1
  · rename_i d e
    have hd := look_q S1 r1 e
    split at q1
    · exact q1.elim
    · rename_i r ns ho
      have an := ans_of S1 st1.dom (fun i z => ns i z) q1
      unfold revToO at ho
      split at ho
      · cases ho
        obtain ⟨p, xs, rfl, hp, hpx⟩ := dq_lst hd
        exact ⟨p, xs, rfl, .of hp, fun l hl => an l _ hl (dps_rev (dps_drop 1 hpx))⟩
      · cases ho
    · exact q1.elim
  · exact q1.elim
/-! ### list(range(..)) -/
theorem rgV_rp {K : PySem.W.Frag} {G : Hp} (a b : Int) : RpAll K G (rgV a b) (rangeD a (b - a).toNat) := by
  unfold rgV rangeD
  generalize (b - a).toNat = n
  have : ∀ l : List Nat, RpAll K G (l.map fun i => V.int (a + (i : Nat))) (l.map fun i => PyData.int (a + (i : Nat))) := by
    intro l
    induction l with
    | nil => exact .nil
    | cons x l ih => exact .cons (.int _) ih
  exact this _
def rgS (a b : Int) : Prop := RgOk a b
instance (a b : Int) : Decidable (rgS a b) := Classical.propDecidable _
@[simp] theorem rgS_of {a b : Int} (h0 : 0 ≤ a) (h1 : b ≤ 16777216) (h2 : a ≤ 16777216) (h3 : 0 ≤ b) : rgS a b := RgOk.of_le h0 h1 h2 h3
def kLRng (a : Int) (r : R) (s : DSt) : Res R := match look r s with
  | some (.int b) => if rgS a b then .ok (.new (rangeD a (b - a).toNat)) s else .stuck
  | _ => .stuck
@[simp] theorem y_kLRng (a : Int) (r : R) (s : DSt) : kLRng a r s = (match look r s with | some (.int b) => if rgS a b then .ok (.new (rangeD a (b - a).toNat)) s else .stuck | _ => .stuck) := Eq.trans rfl rfl
def fLRng1 (f : M R) : M R := bnd f (kLRng 0)
@[simp] theorem x_lRng1 {f : M R} {s : DSt} : fLRng1 f s = (f s).bind (kLRng 0) := Eq.trans rfl rfl
theorem d_lRng1 {p p2 q pos : Pos} (hc : X.calm = true) (hg : Gl X "list") (hm : X.mg "list" = none) (hg2 : Gl X "range") (hm2 : X.mg "range" = none) (ha : DE X cl W a f)
    (na : starEach [a] X.env = (false, eval a X.env) :: starEach [] X.env := by rfl) (na2 : starEach [.Call (.Name "range" p2) [a] [] q] X.env = (false, eval (.Call (.Name "range" p2) [a] [] q) X.env) :: starEach [] X.env := by rfl) :
    DE X cl W (.Call (.Name "list" p) [.Call (.Name "range" p2) [a] [] q] [] pos) (fLRng1 f) := by
  refine pe_imp (pe_listRg hc hg hm (prg_1 hg2 hm2 ha na) na2) fun σ H Q ⟨G, s, S, q⟩ => ?_
  refine ⟨G, s, S, out_mono (out_bind q) fun x G1 s1 H1 st1 S1 k v rr => ?_⟩
  unfold kLRng at k
  split at k
  · rename_i n e1
    split at k
    · rename_i hz
      refine ⟨n, dq_int (look_q S1 rr e1), hz, fun q hq => ?_⟩
      obtain ⟨st2, S2, r2⟩ := new_list (H0 := H) S1 hq (rgV_rp 0 n) st1.dom
      exact k _ _ st2 S2 _ r2
    · exact k.elim
  · exact k.elim
def kLRng2 (g : M R) (r : R) (s : DSt) : Res R := match look r s with
  | some (.int a) => (g s).bind (kLRng a)
  | _ => .stuck
@[simp] theorem y_kLRng2 (g : M R) (r : R) (s : DSt) : kLRng2 g r s = (match look r s with | some (.int a) => (g s).bind (kLRng a) | _ => .stuck) := Eq.trans rfl rfl
def fLRng2 (f g : M R) : M R := bnd f (kLRng2 g)
@[simp] theorem x_lRng2 {f g : M R} {s : DSt} : fLRng2 f g s = (f s).bind (kLRng2 g) := Eq.trans rfl rfl
theorem d_lRng2 {p p2 q pos : Pos} (hc : X.calm = true) (hg : Gl X "list") (hm : X.mg "list" = none) (hg2 : Gl X "range") (hm2 : X.mg "range" = none) (ha : DE X cl W a f) (hb : DE X cl W b g)
    (na : starEach [a, b] X.env = (false, eval a X.env) :: starEach [b] X.env := by rfl) (nb : starEach [b] X.env = (false, eval b X.env) :: starEach [] X.env := by rfl) (hpl : (backTo q (starEach [b] X.env)).any (·.1) = false := by rfl)
    (na2 : starEach [.Call (.Name "range" p2) [a, b] [] q] X.env = (false, eval (.Call (.Name "range" p2) [a, b] [] q) X.env) :: starEach [] X.env := by rfl) :
    DE X cl W (.Call (.Name "list" p) [.Call (.Name "range" p2) [a, b] [] q] [] pos) (fLRng2 f g) := by
  refine pe_imp (pe_listRg hc hg hm (prg_2 hg2 hm2 ha hb na nb hpl) na2) fun σ H Q ⟨G, s, S, q⟩ => ?_
  refine ⟨G, s, S, out_mono (out_bind q) fun x G1 s1 H1 st1 S1 k v rr => ?_⟩
  unfold kLRng2 at k
  split at k
  · rename_i n e1
    refine ⟨G1, s1, S1, out_mono (out_bind k) fun y G2 s2 H2 st2 S2 k2 v2 rr2 => ?_⟩
    unfold kLRng at k2
    split at k2
    · rename_i m e2
      split at k2
      · rename_i hz
        refine ⟨n, m, dq_int (look_q S1 rr e1), dq_int (look_q S2 rr2 e2), hz, fun q hq => ?_⟩
        obtain ⟨st3, S3, r3⟩ := new_list (H0 := H) S2 hq (rgV_rp n m) (st1.trans st2).dom
        exact k2 _ _ st3 S3 _ r3
      · exact k2.elim
    · exact k2.elim
  · exact k.elim
end
end DL

/-! DL20: str of data -/
noncomputable section
namespace DL
open PySem L2 PyProof.Rows
open Evl (Ex)
/-- what can be written out -/
def showOk (d : PyData) : Prop := d.showable = true ∧ d.hasDict = false ∧ d.shown.length ≤ sizeLine ∧ d.depth ≤ 60
instance (d : PyData) : Decidable (showOk d) := Classical.propDecidable _
def lgT (i : Int) : Prop := i.natAbs.log2 < 1920
instance (i : Int) : Decidable (lgT i) := Classical.propDecidable _
def strO (d : PyData) : Option R := match d with
  | .int i => if lgT i then some (.val (.str (Str.ofString (toString i)))) else none
  | .str x => some (.val (.str x))
  | .list ds => if showOk (.list ds) then some (.val (.str (PyData.list ds).shown)) else none
  | .tuple ds => if showOk (.tuple ds) then some (.val (.str (PyData.tuple ds).shown)) else none
  | _ => none
def kStr (r : R) (s : DSt) : Res R := match look r s with
  | some d => (match strO d with
    | some r => .ok r s
    | none => .stuck)
  | none => .stuck
@[simp] theorem y_kStr (r : R) (s : DSt) : kStr r s = (match look r s with | some d => (match strO d with | some r => .ok r s | none => .stuck) | none => .stuck) := Eq.trans rfl rfl
def fStr (f : M R) : M R := bnd f kStr
@[simp] theorem x_str {f : M R} {s : DSt} : fStr f s = (f s).bind kStr := Eq.trans rfl rfl
section
variable {X : Cx} {cl : String → Addr} {W : WX} {e a b c : Expr} {es : List Expr} {f g : M R} {fs : M (List R)} {pos : Pos} {p q : DSt → Flow}
def rStr (K : PySem.W.Frag) : List V → Hp → VK → Prop := fun vs H Q => (∃ i, vs = [.int i] ∧ i.natAbs.log2 < 1920 ∧ Q (.str (Str.ofString (toString i))) H) ∨ (∃ x, vs = [.str x] ∧ Q (.str x) H) ∨
  ∃ a d, vs = [.ref a] ∧ Dp K H (.ref a) d ∧ showOk d ∧ Q (.str d.shown) H
theorem cr_str {k : Nat} (hr : RoomG k X.A) : CallR X (.type "str") (rStr X.K) := by
  intro pins s σ H vs us Q I rv h
  rcases h with ⟨i, rfl, hz, q⟩ | ⟨x, rfl, q⟩ | ⟨a, d, rfl, hd, ⟨h1, h2, h3, h4⟩, q⟩
  · cases rv with
    | cons h t =>
      cases t
      obtain ⟨t, rfl⟩ := h
      exact PySem.P.str_of_int hz ⟨.str _, H, I.tok _, ⟨_, rfl⟩, q⟩
  · cases rv with
    | cons h t =>
      cases t
      obtain ⟨t, rfl⟩ := h
      exact PySem.P.str_of_str ⟨.str _, H, I, ⟨_, rfl⟩, q⟩
  · cases rv with
    | cons h t =>
      cases t
      have h : _ = Value.ref a := h
      subst h
      obtain ⟨as, rd⟩ := Dp.reads I d (.ref a) (.ref a) hd rfl
      exact str_of_reads rd h1 (fun z => by rw [h2] at z; cases z) hr.quiet (by have := hr.units; omega) (fun _ _ z => z) (fun h' u tk hk => ⟨.str _, H, I.kept hk, ⟨_, rfl⟩, q⟩) h3
theorem d_strC {k : Nat} {pn : Pos} (hr : RoomG k X.A) (hg : Gl X "str") (hm : X.mg "str" = none) (ha : DE X cl W a f)
    (na : starEach [a] X.env = (false, eval a X.env) :: starEach [] X.env := by rfl) : DE X cl W (.Call (.Name "str" pn) [a] [] pos) (fStr f) := by
  refine pe_imp (pe_callTy (cr_str hr) hg hm (by decide +kernel) (pa_cons ha pa_nil na) (by decide) (by decide) na rfl) fun σ H Q ⟨G, s, S, q⟩ => ?_
  refine ⟨G, s, S, out_mono (out_bind q) fun x G1 s1 H1 st1 S1 k v rr => ?_⟩
  unfold kStr at k
  split at k
  · rename_i d e1
    have hq := look_q S1 rr e1
    split at k
    · rename_i r' eo
      unfold strO at eo
      split at eo
      · split at eo
        · rename_i hz
          cases eo
          exact .inl ⟨_, by rw [dq_int hq], hz, k G1 H1 Stp.refl S1 _ (.str _)⟩
        · cases eo
      · cases eo
        exact .inr (.inl ⟨_, by rw [dq_str hq], k G1 H1 Stp.refl S1 _ (.str _)⟩)
      · split at eo
        · rename_i hz
          cases eo
          have hp := look_ok S1 rr e1
          have hd := rp_dp _ _ hp
          obtain ⟨p, xs, rfl, _⟩ := dq_lst hq
          exact .inr (.inr ⟨p, _, rfl, hd, hz, k G1 H1 Stp.refl S1 _ (.str _)⟩)
        · cases eo
      · split at eo
        · rename_i hz
          cases eo
          have hp := look_ok S1 rr e1
          have hd := rp_dp _ _ hp
          obtain ⟨p, xs, rfl, _⟩ := dq_tup S1.gh hq
          exact .inr (.inr ⟨p, _, rfl, hd, hz, k G1 H1 Stp.refl S1 _ (.str _)⟩)
        · cases eo
      · cases eo
    · exact k.elim
  · exact k.elim
end
/-! ### how long what is shown is -/
mutual
def wgt : PyData → Nat
  | .list xs | .tuple xs => wgtA xs + 10
  | .str x => 10 * x.length + 100
  | _ => 100
def wgtA : List PyData → Nat
  | [] => 0
  | x :: xs => wgt x + 2 + wgtA xs
end
mutual
def smallD : PyData → Bool
  | .none | .bool _ => true
  | .int i => decide (i.natAbs < 10 ^ 90)
  | .list xs | .tuple xs => smallA xs
  | .str x => x.cps.toList.all fun c => decide (c < 16 ^ 8)
  | _ => false
def smallA : List PyData → Bool
  | [] => true
  | x :: xs => smallD x && smallA xs
end
theorem int_shown {i : Int} (h : i.natAbs < 10 ^ 90) : (Str.ofString (toString i)).length ≤ 91 := by
  rw [ofString_len]
  cases i with
  | ofNat m =>
    have := digits10_le (k := 90) (n := m) (by decide) h
    show (Nat.repr m).length ≤ _
    simp [Nat.repr]
    omega
  | negSucc m =>
    have := digits10_le (k := 90) (n := m + 1) (by decide) h
    show ("-" ++ Nat.repr (m + 1)).length ≤ _
    have h1 : "-".length = 1 := by first | rfl | decide
    simp [Nat.repr, h1]
    omega
theorem listText_le (ts : List Str) : (listText ts).length ≤ piled ts + 4 := by
  unfold listText
  rw [strLen_append]
  have e1 : (("]" : String) : Str).length = 1 := rfl
  have e2 : (("[" : String) : Str).length = 1 := rfl
  rw [e1]
  cases ts with
  | nil => show (("[" : String) : Str).length + 1 ≤ _; rw [e2]; omega
  | cons t ts =>
    show (textFrom (0 + 1) _ ts).length + 1 ≤ _
    rw [textFrom_length_pos _ _ _ (by decide), strLen_append, strLen_append, e2, piled_cons]
    have : (((if 0 > 0 then ", " else "" : String) : Str)).length = 0 := rfl
    omega
theorem tupleText_le (ts : List Str) : (tupleText ts).length ≤ piled ts + 4 := by
  unfold tupleText
  rw [strLen_append, strLen_append]
  have e1 : ((("(" : String) : Str)).length = 1 := rfl
  have e3 : (((if ts.length == 1 then ",)" else ")" : String) : Str)).length ≤ 2 := by split <;> decide
  rw [e1]
  by_cases h : ts = []
  · subst h
    have : (Str.join ", " []).length = 0 := rfl
    omega
  · have := join_length_add ts h
    omega
mutual
theorem shown_le : ∀ d : PyData, smallD d = true → d.shown.length ≤ wgt d ∧ d.showable = true ∧ d.hasDict = false
  | .none, _ => ⟨by show (("None" : String) : Str).length ≤ 100; decide, rfl, rfl⟩
  | .bool b, _ => ⟨by cases b <;> (first | (show (("True" : String) : Str).length ≤ 100; decide) | (show (("False" : String) : Str).length ≤ 100; decide)), rfl, rfl⟩
  | .int i, h => by
    have hi : i.natAbs < 10 ^ 90 := by simpa [smallD] using h
    refine ⟨?_, ?_, rfl⟩
    · have := int_shown hi
      show (Str.ofString (toString i)).length ≤ 100
      omega
    · simp only [PyData.showable, decide_eq_true_eq]
      exact Nat.lt_of_le_of_lt (log_lt (k := 299) (Nat.lt_of_lt_of_le hi (by decide +kernel))) (by decide)
  | .list xs, h => by
    obtain ⟨h1, h2, h3⟩ := shownA_le xs (by simpa [smallD] using h)
    refine ⟨?_, by simpa [PyData.showable] using h2, by simpa [PyData.hasDict] using h3⟩
    have := listText_le (PyData.shownAll xs)
    simp only [PyData.shown, wgt]
    omega
  | .tuple xs, h => by
    obtain ⟨h1, h2, h3⟩ := shownA_le xs (by simpa [smallD] using h)
    refine ⟨?_, by simpa [PyData.showable] using h2, by simpa [PyData.hasDict] using h3⟩
    have := tupleText_le (PyData.shownAll xs)
    simp only [PyData.shown, wgt]
    omega
  | .str x, h => by
    refine ⟨?_, rfl, rfl⟩
    have := PySem.StrLaws.reprText_len x fun c hc => by
      have h : (x.cps.toList.all fun c => decide (c < 16 ^ 8)) = true := h
      exact of_decide_eq_true (List.all_eq_true.mp h c hc)
    show (reprText x).length ≤ 10 * x.length + 100
    omega
  | .dict _, h => by simp [smallD] at h
theorem shownA_le : ∀ xs : List PyData, smallA xs = true → piled (PyData.shownAll xs) ≤ wgtA xs ∧ PyData.showableAll xs = true ∧ PyData.hasDictAll xs = false
  | [], _ => ⟨Nat.le_refl _, rfl, rfl⟩
  | x :: xs, h => by
    simp only [smallA, Bool.and_eq_true] at h
    obtain ⟨a1, a2, a3⟩ := shown_le x h.1
    obtain ⟨b1, b2, b3⟩ := shownA_le xs h.2
    simp only [PyData.shownAll, PyData.showableAll, PyData.hasDictAll, piled_cons, wgtA, a2, a3, b2, b3]
    refine ⟨by omega, rfl, rfl⟩
end
theorem showOk_of {d : PyData} (h : smallD d = true) (hw : wgt d ≤ 100000) (hd : d.depth ≤ 60) : showOk d := by
  obtain ⟨h1, h2, h3⟩ := shown_le d h
  exact ⟨h2, h3, Nat.le_trans (Nat.le_trans h1 hw) (by decide), hd⟩
theorem strO_list {ds : List PyData} (h : smallD (.list ds) = true) (hw : wgt (.list ds) ≤ 100000) (hd : (PyData.list ds).depth ≤ 60) : strO (.list ds) = some (.val (.str (PyData.list ds).shown)) := by
  show (if showOk (.list ds) then some (R.val (.str (PyData.list ds).shown)) else none) = _
  rw [if_pos (showOk_of h hw hd)]
@[simp] theorem wgtA_ints {ns : List Int} : wgtA (ns.map .int) = 102 * ns.length := by
  induction ns with
  | nil => rfl
  | cons a l ih => simp only [List.map_cons, wgtA, wgt, ih, List.length_cons]; omega
theorem smallA_ints {ns : List Int} (h : ∀ x ∈ ns, x.natAbs < 10 ^ 90) : smallA (ns.map .int) = true := by
  induction ns with
  | nil => rfl
  | cons a l ih => simp only [List.map_cons, smallA, smallD, Bool.and_eq_true, decide_eq_true_eq]; exact ⟨h a List.mem_cons_self, ih fun x hx => h x (List.mem_cons_of_mem _ hx)⟩
@[simp] theorem wgt_list {xs : List PyData} : wgt (.list xs) = wgtA xs + 10 := rfl
@[simp] theorem wgt_tuple {xs : List PyData} : wgt (.tuple xs) = wgtA xs + 10 := rfl
@[simp] theorem wgt_int {i : Int} : wgt (.int i) = 100 := rfl
@[simp] theorem wgtA_nil : wgtA [] = 0 := rfl
@[simp] theorem wgtA_cons {x : PyData} {xs : List PyData} : wgtA (x :: xs) = wgt x + 2 + wgtA xs := rfl
@[simp] theorem small_list {xs : List PyData} : smallD (.list xs) = smallA xs := rfl
@[simp] theorem small_tuple {xs : List PyData} : smallD (.tuple xs) = smallA xs := rfl
@[simp] theorem small_nil : smallA [] = true := rfl
@[simp] theorem small_cons {x : PyData} {xs : List PyData} : smallA (x :: xs) = (smallD x && smallA xs) := rfl
end DL

/-! DL21: a call that only looks: own lists that are handed in stay own -/
noncomputable section
namespace DL
open PySem L2 PyProof.Rows
open Evl (Ex)
def atomD : PyData → Bool
  | .none | .bool _ | .int _ | .str _ => true
  | _ => false
def atomR : R → Bool
  | .val d => atomD d
  | .raw _ => false
  | .ob _ => false
  | .new ds => ds.all atomD
  | .slot _ => false
theorem rp_atom {K : PySem.W.Frag} {G G' : Hp} {v : V} {d : PyData} (h : Rp K G v d) (a : atomD d = true) : Rp K G' v d := by
  cases d <;> simp [atomD] at a <;> cases h
  · exact .non
  · exact .bl _
  · exact .int _
  · exact .str _
theorem rps_atom {K : PySem.W.Frag} {G G' : Hp} : ∀ {ds : List PyData} {vs : List V}, RpAll K G vs ds → ds.all atomD = true → RpAll K G' vs ds
  | [], _, h, _ => by cases h; exact .nil
  | d :: ds, _, h, a => by
    simp at a
    cases h with
    | cons h1 h2 => exact .cons (rp_atom h1 a.1) (rps_atom h2 (by simpa using a.2))
/-- how a callee sees it -/
def seen (r : R) (s : DSt) : Option R := match r with
  | .raw v => some (.raw v)
  | .ob o => some (.ob o)
  | r => (look r s).map .val
def seens : List R → DSt → Option (List R)
  | [], _ => some []
  | r :: rs, s => match seen r s, seens rs s with
    | some a, some as => some (a :: as)
    | _, _ => none
def kUserP (F : List R → Pw → FRes) (rs : List R) (s : DSt) : Res R := match seens rs s with
  | some rs' => (match F rs' s.w with
    | .ok r w' => if atomR r = true then .ok r ⟨s.d, w'⟩ else .stuck
    | _ => .stuck)
  | none => .stuck
@[simp] theorem y_kUserP (F : List R → Pw → FRes) (rs : List R) (s : DSt) : kUserP F rs s = (match seens rs s with | some rs' => (match F rs' s.w with | .ok r w' => if atomR r = true then .ok r ⟨s.d, w'⟩ else .stuck | _ => .stuck) | none => .stuck) := Eq.trans rfl rfl
def fUserP (F : List R → Pw → FRes) (fs : M (List R)) : M R := bnd fs (kUserP F)
@[simp] theorem x_userP {F : List R → Pw → FRes} {fs : M (List R)} {s : DSt} : fUserP F fs s = (fs s).bind (kUserP F) := Eq.trans rfl rfl
@[simp] theorem x_seens_nil {s : DSt} : seens [] s = some [] := Eq.trans rfl rfl
@[simp] theorem x_seens_cons {r : R} {rs : List R} {s : DSt} : seens (r :: rs) s = (match seen r s, seens rs s with | some a, some as => some (a :: as) | _, _ => none) := Eq.trans rfl rfl
@[simp] theorem x_seen_raw {v : V} {s : DSt} : seen (.raw v) s = some (.raw v) := Eq.trans rfl rfl
@[simp] theorem x_seen_val {d : PyData} {s : DSt} : seen (.val d) s = some (.val d) := Eq.trans rfl rfl
@[simp] theorem x_seen_new {ds : List PyData} {s : DSt} : seen (.new ds) s = some (.val (.list ds)) := Eq.trans rfl rfl
@[simp] theorem x_seen_slot {i : Nat} {s : DSt} : seen (.slot i) s = (look (.slot i) s).map .val := Eq.trans rfl rfl
@[simp] theorem atomR_new {ds : List PyData} : atomR (.new ds) = ds.all atomD := rfl
@[simp] theorem atomR_val {d : PyData} : atomR (.val d) = atomD d := rfl
@[simp] theorem atomD_int {d : Int} : atomD (.int d) = true := rfl
@[simp] theorem atomD_bool {d : Bool} : atomD (.bool d) = true := rfl
@[simp] theorem atomD_str {d : Str} : atomD (.str d) = true := rfl
@[simp] theorem atomD_none : atomD .none = true := rfl
@[simp] theorem atomD_ints {ns : List Int} : (ns.map PyData.int).all atomD = true := by
  induction ns with
  | nil => rfl
  | cons a l ih => simp [ih]
section
variable {K : PySem.W.Frag} {G H G1 G' H' : Hp} {s : DSt} {σ : L2.St} {w' : Pw}
/-- all that is known or own, without the purse -/
def allG (w : Pw) (H : Hp) : Hp := fun a => @ite _ (POwn w a) (Classical.propDecidable _) none (H a)
theorem allG_out {w : Pw} {a : Addr} (h : ¬ POwn w a) : allG w H a = H a := by unfold allG; rw [if_neg h]
theorem allG_in {w : Pw} {a : Addr} (h : POwn w a) : allG w H a = none := by unfold allG; rw [if_pos h]
theorem G_pown {w : Pw} (p : PwOk G w H) {a : Addr} (h : POwn w a) : G a = none := by
  unfold PwOk at p
  unfold POwn at h
  split at h
  · exact h.elim
  · rcases h with rfl | rfl
    · exact p.2.2.2.1
    · exact p.2.2.2.2
theorem allG_up (S : SA K G s σ H) : Ex G (allG s.w H) := fun a o e => by
  rw [allG_out fun z => by rw [G_pown S.pw z] at e; cases e]
  exact S.gh a o e
theorem allG_ex {w : Pw} : Ex (allG w H) H := fun a o e => by
  by_cases h : POwn w a
  · rw [allG_in h] at e; cases e
  · rwa [allG_out h] at e
theorem allG_pw (S : SA K G s σ H) : PwOk (allG s.w H) s.w H := by
  have q := S.pw
  have n : ∀ a, POwn s.w a → allG s.w H a = none := fun a h => allG_in h
  unfold PwOk at q ⊢
  split
  · trivial
  · rename_i pa ca cells t e
    rw [e] at q n
    exact ⟨q.1, q.2.1, q.2.2.1, by rw [e]; exact n pa (.inl rfl), by rw [e]; exact n ca (.inr rfl)⟩
theorem look_stp (S : SA K G s σ H) (f : FStp (allG s.w H) s.w H G' w' H') (pw : PwOk G' w' H') : Stp G s σ H G ⟨s.d, w'⟩ σ H' ∧ SA K G ⟨s.d, w'⟩ σ H' := by
  have own : ∀ i a, OwnAt s σ i a → H a ≠ none ∧ ¬ POwn s.w a := fun i a z => ⟨by obtain ⟨xs, e⟩ := S.ownH (.inl ⟨i, z⟩); rw [e]; simp, S.pne i a z⟩
  have up : Ex G G' := fun a o e => f.ex a o (allG_up S a o e)
  have gn : ∀ a, G' a = none → G a = none := fun a h => Classical.byContradiction fun z => by
    obtain ⟨o, e⟩ := Option.ne_none_iff_exists'.mp z
    rw [up a o e] at h
    cases h
  refine ⟨⟨Ex.refl G, fun a o h n => ⟨(f.keep a o h fun z => n (.inr z)).1, rfl⟩, fun a z => ?_, f.dom, f.pw⟩, ⟨S.len, fun a o e => f.gh a o (up a o e), fun i sl h => ?_, S.inj, fun i a z => S.ownG i a z, ?_, fun i a z q => ?_⟩⟩
  · rcases z with z | z
    · exact .inl (.inl z)
    · exact (f.own a z).imp .inr id
  · have q := S.slot i sl h
    cases sl with
    | no => trivial
    | val d => exact q
    | raw v => exact q
    | ob o => exact q
    | own es =>
      obtain ⟨a, xs, e, ha, hh⟩ := q
      have e' : σ[i]? = some (some (.ref a)) := by
        cases z : σ[i]? with
        | none => rw [z] at e; cases e
        | some o => rw [z] at e; simp at e; rw [e]
      exact ⟨a, xs, e, (f.keep a _ ha (own i a ⟨⟨es, h⟩, e'⟩).2).1, hh⟩
  · unfold PwOk at pw ⊢
    split
    · trivial
    · rename_i pa ca cells t e
      have e : w' = some (pa, ca, cells, t) := e
      rw [e] at pw
      exact ⟨pw.1, pw.2.1, pw.2.2.1, gn _ pw.2.2.2.1, gn _ pw.2.2.2.2⟩
  · rcases f.own a q with q | q
    · exact (own i a z).2 q
    · exact (own i a z).1 q
theorem seen_ar {H0 : Hp} {v : V} {r r' : R} (S : SA K G s σ H) (h : RRel K H0 G s σ H v r) (e : seen r s = some r') : AR K (allG s.w H) v r' := by
  cases r with
  | raw u => cases e; exact h
  | ob o => cases e; exact ob_mono (allG_up S) h
  | val d =>
    cases e
    exact dp_mono (allG_up S) _ _ h
  | new ds =>
    cases e
    obtain ⟨a, xs, rfl, ha, hd, _, _, hn⟩ := h
    exact Rp.lst (by rw [allG_out fun z => hn (.inr z)]; exact ha) (dps_mono (allG_up S) _ _ hd)
  | slot i =>
    have h' : σ[i]? = some (some v) := h
    simp only [x_seen_slot, look] at e
    split at e
    · rename_i ds q
      cases e
      obtain ⟨a, xs, e1, ha, hd⟩ := S.slot i _ q
      rw [h'] at e1
      cases e1
      exact Rp.lst (by rw [allG_out (S.pne i a ⟨⟨_, q⟩, h'⟩)]; exact ha) (dps_mono (allG_up S) _ _ hd)
    · rename_i d q
      cases e
      obtain ⟨u, e1, hd⟩ := S.slot i _ q
      rw [h'] at e1
      cases e1
      exact dp_mono (allG_up S) _ _ hd
    · cases e
theorem seens_ar {H0 : Hp} (S : SA K G s σ H) : ∀ {rs rs' : List R} {vs : List V}, RRels K H0 G s σ H vs rs → seens rs s = some rs' → Paired (AR K (allG s.w H)) vs rs'
  | [], _, _, .nil, e => by cases e; exact .nil
  | r :: rs, _, _, .cons h t, e => by
    simp only [x_seens_cons] at e
    split at e
    · rename_i a as e1 e2
      cases e
      exact .cons (seen_ar S h e1) (seens_ar S t e2)
    · cases e
end
section
variable {X : Cx} {cl : String → Addr} {W : WX} {e : Expr} {es : List Expr} {fs : M (List R)} {pos : Pos}
theorem userP_reads {K : PySem.W.Frag} {F : List R → Pw → FRes} {σ : L2.St} {H : Hp} {Q : VK} (q : tD K cl W (fUserP F fs) σ H Q) : tCallS (spF K cl F) (WE W) (tA K cl W fs) σ H Q := by
  obtain ⟨G, s, S, q⟩ := q
  refine ⟨G, s, S, out_mono (out_bind q) fun rs G1 s1 H1 st1 S1 k vs hv => ?_⟩
  unfold kUserP at k
  split at k
  · rename_i rs' e1
    refine ⟨allG s1.w H1, rs', s1.w, allG_ex, seens_ar S1 hv e1, allG_pw S1, ?_⟩
    cases z : F rs' s1.w with
    | ok r w' =>
      rw [z] at k
      dsimp only at k
      split at k
      · rename_i ha
        intro v G' H' f pw fr
        obtain ⟨st, S'⟩ := look_stp S1 f pw
        refine k G1 H' st S' v ?_
        cases r with
        | val d => exact rp_atom fr ha
        | raw u => simp [atomR] at ha
        | ob u => simp [atomR] at ha
        | slot i => exact fr.elim
        | new ds =>
          obtain ⟨a, xs, e, ha2, hd, hg, h0, hn⟩ := fr
          refine ⟨a, xs, e, ha2, rps_atom hd ha, ?_, Classical.byContradiction fun z => st1.dom a z h0, fun z => ?_⟩
          · refine Classical.byContradiction fun z => ?_
            obtain ⟨o, eo⟩ := Option.ne_none_iff_exists'.mp z
            rw [S1.gh a o eo] at h0
            cases h0
          · rcases z with ⟨i, z⟩ | z
            · obtain ⟨ys, e2⟩ := S1.ownH (.inl ⟨i, z⟩)
              rw [h0] at e2; cases e2
            · exact hn z
      · exact k.elim
    | err x w' => rw [z] at k; exact k.elim
    | stuck => rw [z] at k; exact k
  · exact k.elim
theorem d_calP {F : List R → Pw → FRes} {k : Nat} {ps : List Str} {x : Str} {p : Pos} (h : Cal X.prog X.w X.K X.mg X.base cl x k ps F) (hr : RoomG k X.A) (hx : ∀ σ, PassesAt (L2.CX X.prog X.w) X σ (WE W σ)) (ha : DA X cl W (e :: es) fs) (hg : Gl X x := by rfl) (hdb : (x == ("__debug__" : Str)) = false := by decide)
    (he : starEach (e :: es) X.env = (false, eval e X.env) :: starEach es X.env := by rfl) (hpl : (backTo pos (starEach es X.env)).any (·.1) = false := by rfl) : DE X cl W (.Call (.Name x p) (e :: es) [] pos) (fUserP F fs) := by
  obtain ⟨f, fd, ok, g, kp, b⟩ := h
  exact pe_imp (pe_callG ok hr hg g kp b hx ha hdb he hpl) fun σ H Q q => userP_reads q
end
theorem range_D (n : Nat) : (List.range n).map (fun (k : Nat) => PyData.int (k : Int)) = rangeD 0 n := by simp [rangeD]
end DL

/-! DL22: comprehensions that draw -/
noncomputable section
namespace DL
open PySem L2
theorem loopC_w {α : Type} {b : Bd} {ft : M Bool} {fe : M R} {vs : List Nat} {d : List Sl} {f : α → PyData} (da : α → List Sl) (hn : noOwn vs d = true) (Inv : Nat → List PyData → Pw → Prop) : ∀ (l : List α) (acc : List PyData) (w : Pw) (i : Nat), Inv i acc w →
    (∀ (j : Nat) (a : α), l[j]? = some a → ∀ acc w, Inv (i + j) acc w → b (f a) ⟨blank vs d, w⟩ = some ⟨da a, w⟩ ∧ putBack vs d (da a) = d ∧ ∃ k w1, ft ⟨da a, w⟩ = .ok k ⟨da a, w1⟩ ∧ (k = false → Inv (i + j + 1) acc w1) ∧ (k = true → ∃ x w2, (fe ⟨da a, w1⟩).bind fEsc = .ok (.val x) ⟨da a, w2⟩ ∧ Inv (i + j + 1) (acc ++ [x]) w2)) →
    ∃ out w', loopC b ft fe vs (l.map f) acc ⟨d, w⟩ = .ok out ⟨d, w'⟩ ∧ Inv (i + l.length) out w'
  | [], acc, w, i, h, _ => ⟨acc, w, by simp [loopC], h⟩
  | a :: l, acc, w, i, h, st => by
    obtain ⟨e1, e2, k, w1, e3, kf, kt⟩ := st 0 a rfl acc w h
    have ih := fun acc w h => loopC_w da hn Inv l acc w (i + 1) h fun j a hj acc w h => by
      have := st (j + 1) a (by simpa using hj) acc w (by rw [show i + (j + 1) = i + 1 + j by omega]; exact h)
      rwa [show i + (j + 1) = i + 1 + j by omega] at this
    rw [show i + (a :: l).length = i + 1 + l.length by simp; omega]
    rw [List.map_cons]
    unfold loopC
    rw [if_pos hn, e1]
    dsimp only
    rw [e3]
    cases k with
    | false =>
      obtain ⟨out, w', e, hi⟩ := ih acc w1 (kf rfl)
      refine ⟨out, w', ?_, hi⟩
      show loopC b ft fe vs (l.map f) acc ⟨putBack vs d (da a), w1⟩ = _
      rw [e2, e]
    | true =>
      obtain ⟨x, w2, e4, h4⟩ := kt rfl
      obtain ⟨out, w', e, hi⟩ := ih _ w2 h4
      refine ⟨out, w', ?_, hi⟩
      show (nerr (bnd fe fEsc ⟨da a, w1⟩)).bind _ = _
      rw [bnd_app, e4]
      show loopC b ft fe vs (l.map f) (acc ++ [x]) ⟨putBack vs d (da a), w2⟩ = _
      rw [e2, e]
/-- a comprehension whose test or element draws -/
theorem lc_w {α : Type} {fi : M (List PyData)} {b : Bd} {ft : M Bool} {fe : M R} {vs : List Nat} {s : DSt} {d : List Sl} {w : Pw} {f : α → PyData} {l : List α} (da : α → List Sl) (Inv : Nat → List PyData → Pw → Prop) (hi : fi s = .ok (l.map f) ⟨d, w⟩) (hl : l.length ≤ 100000) (hn : noOwn vs d = true) (h0 : Inv 0 [] w)
    (st : ∀ (j : Nat) (a : α), l[j]? = some a → ∀ acc w, Inv j acc w → b (f a) ⟨blank vs d, w⟩ = some ⟨da a, w⟩ ∧ putBack vs d (da a) = d ∧ ∃ k w1, ft ⟨da a, w⟩ = .ok k ⟨da a, w1⟩ ∧ (k = false → Inv (j + 1) acc w1) ∧ (k = true → ∃ x w2, (fe ⟨da a, w1⟩).bind fEsc = .ok (.val x) ⟨da a, w2⟩ ∧ Inv (j + 1) (acc ++ [x]) w2)) :
    ∃ out w', fLc fi b ft fe vs s = .ok (.new out) ⟨d, w'⟩ ∧ Inv l.length out w' := by
  obtain ⟨out, w', e, h⟩ := loopC_w da hn Inv l [] w 0 h0 fun j a hj acc w h => by
    rw [Nat.zero_add] at h ⊢
    exact st j a hj acc w h
  rw [Nat.zero_add] at h
  refine ⟨out, w', ?_, h⟩
  have hl2 : leS (l.map f).length := by rw [List.length_map]; exact size_le hl
  unfold fLc
  simp only [bnd_app, hi, bind_ok, if_pos hl2]
  rw [e]
  rfl
theorem loopC_s {α : Type} {b : Bd} {ft : M Bool} {fe : M R} {vs : List Nat} {f : α → PyData} (Inv : Nat → List PyData → DSt → Prop) : ∀ (l : List α) (acc : List PyData) (s : DSt) (i : Nat), Inv i acc s →
    (∀ (j : Nat) (a : α), l[j]? = some a → ∀ acc s, Inv (i + j) acc s → noOwn vs s.d = true ∧ ∃ s1, b (f a) ⟨blank vs s.d, s.w⟩ = some s1 ∧ ∃ k s2, ft s1 = .ok k s2 ∧ (k = false → Inv (i + j + 1) acc ⟨putBack vs s.d s2.d, s2.w⟩) ∧ (k = true → ∃ x s3, (fe s2).bind fEsc = .ok (.val x) s3 ∧ Inv (i + j + 1) (acc ++ [x]) ⟨putBack vs s.d s3.d, s3.w⟩)) →
    ∃ out s', loopC b ft fe vs (l.map f) acc s = .ok out s' ∧ Inv (i + l.length) out s'
  | [], acc, s, i, h, _ => ⟨acc, s, by simp [loopC], h⟩
  | a :: l, acc, s, i, h, st => by
    obtain ⟨hn, s1, e1, k, s2, e3, kf, kt⟩ := st 0 a rfl acc s h
    have ih := fun acc s h => loopC_s Inv l acc s (i + 1) h fun j a hj acc s h => by
      have := st (j + 1) a (by simpa using hj) acc s (by rw [show i + (j + 1) = i + 1 + j by omega]; exact h)
      rwa [show i + (j + 1) = i + 1 + j by omega] at this
    rw [show i + (a :: l).length = i + 1 + l.length by simp; omega]
    rw [List.map_cons]
    unfold loopC
    rw [if_pos hn, e1]
    dsimp only
    rw [e3]
    cases k with
    | false =>
      obtain ⟨out, s', e, hi⟩ := ih acc _ (kf rfl)
      exact ⟨out, s', e, hi⟩
    | true =>
      obtain ⟨x, s3, e4, h4⟩ := kt rfl
      obtain ⟨out, s', e, hi⟩ := ih _ _ h4
      refine ⟨out, s', ?_, hi⟩
      show (nerr (bnd fe fEsc s2)).bind _ = _
      rw [bnd_app, e4]
      exact e
/-- a comprehension whose test or element changes the state -/
theorem lc_s {α : Type} {fi : M (List PyData)} {b : Bd} {ft : M Bool} {fe : M R} {vs : List Nat} {s s0 : DSt} {f : α → PyData} {l : List α} (Inv : Nat → List PyData → DSt → Prop) (hi : fi s = .ok (l.map f) s0) (hl : l.length ≤ 100000) (h0 : Inv 0 [] s0)
    (st : ∀ (j : Nat) (a : α), l[j]? = some a → ∀ acc s, Inv j acc s → noOwn vs s.d = true ∧ ∃ s1, b (f a) ⟨blank vs s.d, s.w⟩ = some s1 ∧ ∃ k s2, ft s1 = .ok k s2 ∧ (k = false → Inv (j + 1) acc ⟨putBack vs s.d s2.d, s2.w⟩) ∧ (k = true → ∃ x s3, (fe s2).bind fEsc = .ok (.val x) s3 ∧ Inv (j + 1) (acc ++ [x]) ⟨putBack vs s.d s3.d, s3.w⟩)) :
    ∃ out s', fLc fi b ft fe vs s = .ok (.new out) s' ∧ Inv l.length out s' := by
  obtain ⟨out, s', e, h⟩ := loopC_s Inv l [] s0 0 h0 fun j a hj acc s h => by
    rw [Nat.zero_add] at h ⊢
    exact st j a hj acc s h
  rw [Nat.zero_add] at h
  refine ⟨out, s', ?_, h⟩
  have hl2 : leS (l.map f).length := by rw [List.length_map]; exact size_le hl
  unfold fLc
  simp only [bnd_app, hi, bind_ok, if_pos hl2]
  rw [e]
  rfl
end DL

/-! DL23: dicts that are known -/
noncomputable section
namespace DL
open PySem L2 PyProof.Rows
open Evl (Ex)
def keyD : PyData → Option Key
  | .int i => some (.inl i)
  | .str x => some (.inr x)
  | _ => none
def valD (kvs : List (Key × PyData)) (k : Key) : Option PyData := (kvs.find? fun kv => decide (kv.1 = k)).map (·.2)
theorem valD_nil {k : Key} : valD [] k = none := rfl
theorem valD_cons {k j : Key} {d : PyData} {kvs : List (Key × PyData)} : valD ((k, d) :: kvs) j = if k = j then some d else valD kvs j := by
  unfold valD
  by_cases e : k = j <;> simp [List.find?_cons, e]
theorem krp_val {K : PySem.W.Frag} {G : Hp} {k : Key} : ∀ {vs : List (Key × V)} {kvs : List (Key × PyData)}, KRp K G vs kvs → match valD kvs k with
    | some d => ∃ v, valV vs k = some v ∧ Rp K G v d
    | none => valV vs k = none
  | _, _, .nil => rfl
  | _, _, .cons (k := j) (v := v) (d := d) h t => by
    rw [valD_cons]
    by_cases e : j = k
    · rw [if_pos e]; exact ⟨v, valV_pos e, h⟩
    · rw [if_neg e, valV_neg e]; exact krp_val t
theorem krp_some {K : PySem.W.Frag} {G : Hp} {k : Key} {vs : List (Key × V)} {kvs : List (Key × PyData)} (h : KRp K G vs kvs) : (valV vs k).isSome = (valD kvs k).isSome := by
  have := krp_val (k := k) h
  cases q : valD kvs k with
  | none => rw [q] at this; rw [this] <;> rfl
  | some d => rw [q] at this; obtain ⟨v, e, _⟩ := this; rw [e] <;> rfl
theorem key_rp {K : PySem.W.Frag} {G H : Hp} {v : V} {d : PyData} {k : Key} (h : Dq K G H v d) (e : keyD d = some k) : v = L2.kV k := by
  cases d with
  | int i => cases e; exact dq_int h
  | str x => cases e; exact dq_str h
  | none => cases e
  | bool _ => cases e
  | list _ => cases e
  | tuple _ => cases e
  | dict _ => cases e
/-- a dict of written texts and ints -/
def fDictC (kvs : List (Str × Int)) : M R := ret (.ob (.dict (kvs.map fun p => (.inr p.1, .int p.2))))
def kDGet (g : M R) (x : R) (s : DSt) : Res R := match x with
  | .ob (.dict kvs) => (g s).bind fun y s2 => match look y s2 with
    | some d => match keyD d with
      | some k => match valD kvs k with
        | some e => .ok (.val e) s2
        | none => .stuck
      | none => .stuck
    | none => .stuck
  | _ => .stuck
/-- d[k] -/
def fDGet (f g : M R) : M R := bnd f (kDGet g)
def kDIn (neg : Bool) (y x : R) (s : DSt) : Res R := match look y s, x with
  | some d, .ob (.dict kvs) => match keyD d with
    | some k => .ok (.val (.bool (if neg then !(valD kvs k).isSome else (valD kvs k).isSome))) s
    | none => .stuck
  | _, _ => .stuck
/-- k in d -/
def fDIn (neg : Bool) (f g : M R) : M R := bnd f fun y => bnd g fun x => kDIn neg y x
section
variable {X : Cx} {cl : String → Addr} {W : WX} {e a b : Expr} {f g : M R} {pos : Pos}
theorem lt1 {n : Nat} (h : n + 64 < cLine) : n + 1 < cLine := Nat.lt_of_le_of_lt (Nat.add_le_add_left (by decide) n) h
theorem disp_pairs {σ : L2.St} : ∀ (kvs : List (Str × Int)) (H : Hp) (Q : List (V × V) → Hp → Prop), Q (kvs.map fun p => (V.str p.1, V.int p.2)) H → tPairs (kvs.map fun p => (tC (V.str p.1), tC (V.int p.2))) σ H Q
  | [], H, Q, h => h
  | p :: r, H, Q, h => by
    show tPairs (r.map _) σ H fun ps H3 => Q ((V.str p.1, V.int p.2) :: ps) H3
    exact disp_pairs r H _ h
theorem krp_const {K : PySem.W.Frag} {G : Hp} : ∀ kvs : List (Str × Int), KRp K G (kvs.map fun p => (.inr p.1, V.int p.2)) (kvs.map fun p => (.inr p.1, PyData.int p.2))
  | [] => .nil
  | p :: r => .cons (.int _) (krp_const r)
theorem d_dictC {keys : List (Option Expr)} {values : List Expr} {kvs : List (Str × Int)} (h : PPs X pos keys values (kvs.map fun p => (tC (V.str p.1), tC (V.int p.2)))) (hm : mergeK [] (kvs.map fun p => (Sum.inr p.1, V.int p.2)) = kvs.map fun p => (Sum.inr p.1, V.int p.2))
    (h15 : kvs.length ≤ 15) (hall : keys.all (·.isSome) = true := by rfl) (hl : keys.length = values.length := by rfl) (h0 : keys ≠ [] := by exact fun z => nomatch z) (h15' : keys.length ≤ 15 := by decide) : DE X cl W (.Dict keys values pos) (fDictC kvs) := by
  refine pe_imp (pe_disp h hall hl h0 h15') fun σ H Q ⟨G, s, S, q⟩ p hp => disp_pairs kvs _ _ ⟨upd_same, kvs.map fun p => (Sum.inr p.1, V.int p.2), by rw [List.map_map]; rfl, by simpa using h15, ?_⟩
  rw [hm, upd_upd]
  obtain ⟨st, sa⟩ := new_known (.dK (kvs.map fun p => (Sum.inr p.1, V.int p.2))) S hp
  exact q _ _ st sa _ ⟨p, _, rfl, upd_same, krp_const kvs⟩
theorem d_dget (hu : X.A.units + 64 < cLine) (ha : DE X cl W a f) (hb : DE X cl W b g) (hs : NoSl b) : DE X cl W (.Subscript a b pos) (fDGet f g) := by
  refine pe_imp (pe_dget (lt1 hu) ha hb hs) fun σ H Q ⟨G, s, S, q⟩ => ?_
  refine ⟨G, s, S, out_mono (out_bind q) fun x G1 s1 H1 st1 S1 k v rr => ?_⟩
  unfold kDGet at k
  split at k
  · rename_i kvs
    refine ⟨G1, s1, S1, out_mono (out_bind k) fun y G2 s2 H2 st2 S2 k2 u ru => ?_⟩
    obtain ⟨l, vs, rfl, hl, hk⟩ := rr
    split at k2
    · rename_i d ed
      split at k2
      · rename_i kk ek
        split at k2
        · rename_i w ew
          have hu2 := key_rp (look_q S2 ru ed) ek
          subst hu2
          have := krp_val (k := kk) hk
          rw [ew] at this
          obtain ⟨z, e1, e2⟩ := this
          refine ⟨l, z, rfl, ?_, k2 G2 H2 Stp.refl S2 z (dp_mono st2.ex _ _ e2)⟩
          rw [← e1]
          exact DGet.k (S2.gh _ _ (st2.ex _ _ hl))
        · exact k2.elim
      · exact k2.elim
    · exact k2.elim
  · exact k.elim
theorem dIn_reads {neg : Bool} {rl : TE → TE → TE} (hr : ∀ ty td σ H Q, ty σ H (fun y H1 => td σ H1 fun x H2 => ∃ a o, x = V.ref a ∧ DGet H2 a y o ∧ Q (.bl (if neg then !o.isSome else o.isSome)) H2) → rl ty td σ H Q) {K : PySem.W.Frag} {σ : L2.St} {H : Hp} {Q : VK} (q : tD K cl W (fDIn neg f g) σ H Q) :
    rl (tD K cl W f) (tD K cl W g) σ H Q := by
  obtain ⟨G, s, S, q⟩ := q
  refine hr _ _ _ _ _ ⟨G, s, S, out_mono (out_bind q) fun y G1 s1 H1 st1 S1 k v rr => ?_⟩
  refine ⟨G1, s1, S1, out_mono (out_bind k) fun x G2 s2 H2 st2 S2 k2 u ru => ?_⟩
  unfold kDIn at k2
  split at k2
  · rename_i d kvs ed
    split at k2
    · rename_i kk ek
      have hu2 := key_rp (look_q S2 (rr.mono st2) ed) ek
      subst hu2
      obtain ⟨l, vs, rfl, hl, hk⟩ := ru
      refine ⟨l, _, rfl, DGet.k (S2.gh _ _ hl), ?_⟩
      rw [krp_some hk]
      exact k2 G2 H2 Stp.refl S2 _ (.bl _)
    · exact k2.elim
  · exact k2.elim
theorem d_dIn (hu : X.A.units + 64 < cLine) (ha : DE X cl W a f) (hb : DE X cl W b g) (hm : behindInMarks .In b = false) : DE X cl W (.Compare a [.In] [b] pos) (fDIn false f g) := pe_imp (pe_cmp (pc_din (lt1 hu) ha hb) hm) fun σ H Q q => dIn_reads (neg := false) (rl := tDIn) (fun _ _ _ _ _ h => h) q
theorem d_dNotIn (hu : X.A.units + 64 < cLine) (ha : DE X cl W a f) (hb : DE X cl W b g) (hm : behindInMarks .NotIn b = false) : DE X cl W (.Compare a [.NotIn] [b] pos) (fDIn true f g) := pe_imp (pe_cmp (pc_dnotin (lt1 hu) ha hb) hm) fun σ H Q q => dIn_reads (neg := true) (rl := tDNotIn) (fun _ _ _ _ _ h => h) q
theorem t_dIn (hu : X.A.units + 64 < cLine) (ha : DE X cl W a f) (hb : DE X cl W b g) (hm : behindInMarks .In b = false) : DT X cl W (.Compare a [.In] [b] pos) (fB (fDIn false f g)) := pt_imp (pt_cmp (pc_din (lt1 hu) ha hb) hm) fun σ H Q q => dIn_reads (neg := false) (rl := tDIn) (fun _ _ _ _ _ h => h) (test_of q)
theorem t_dNotIn (hu : X.A.units + 64 < cLine) (ha : DE X cl W a f) (hb : DE X cl W b g) (hm : behindInMarks .NotIn b = false) : DT X cl W (.Compare a [.NotIn] [b] pos) (fB (fDIn true f g)) := pt_imp (pt_cmp (pc_dnotin (lt1 hu) ha hb) hm) fun σ H Q q => dIn_reads (neg := true) (rl := tDNotIn) (fun _ _ _ _ _ h => h) (test_of q)
end
theorem ss_nev {X : Cx} {cl : String → Addr} {W : WX} {sts : List Stmt} : DSs X cl W sts fnever := ⟨fun _ _ _ _ _ _ ⟨_, _, _, h⟩ => h.elim⟩
/-! ### a < b < c -/
def kChain3 (o' : R → R → M R) (h : M R) (y : R) (z : R) (s : DSt) : Res R := match look z s with
  | some (.bool true) => (h s).bind fun w => o' y w
  | some (.bool false) => .ok (.val (.bool false)) s
  | _ => .stuck
def kChain2 (o o' : R → R → M R) (h : M R) (x : R) (y : R) (s : DSt) : Res R := (o x y s).bind (kChain3 o' h y)
def kChain1 (o o' : R → R → M R) (g h : M R) (x : R) (s : DSt) : Res R := (g s).bind (kChain2 o o' h x)
def fChain (o o' : R → R → M R) (f g h : M R) : M R := bnd f (kChain1 o o' g h)
section
variable {X : Cx} {cl : String → Addr} {W : WX} {e a b c : Expr} {f g h : M R} {pos : Pos}
theorem chain_reads {K : PySem.W.Frag} {r r' : R2} {o o' : R → R → M R} (ho : OpS K r o) (ho' : OpS K r' o') {σ : L2.St} {H : Hp} {Q : VK} (q : tD K cl W (fChain o o' f g h) σ H Q) : tChain r r' (tD K cl W f) (tD K cl W g) (tD K cl W h) σ H Q := by
  obtain ⟨G, s, S, q⟩ := q
  refine ⟨G, s, S, out_mono (out_bind q) fun x G1 s1 H1 st1 S1 k v rr => ⟨G1, s1, S1, ?_⟩⟩
  refine out_mono (out_bind k) fun y G2 s2 H2 st2 S2 k2 u ru => ?_
  refine ho cl W G2 s2 σ H2 H v u x y _ S2 (rr.mono st2) (ru.less st1.dom) (out_mono (out_bind k2) fun z G3 s3 H3 st3 S3 k3 w rw' => ?_)
  unfold kChain3 at k3
  split at k3
  · rename_i e
    obtain rfl := dq_bl (look_q S3 rw' e)
    refine ⟨true, rfl, ?_⟩
    rw [if_pos rfl]
    refine ⟨G3, s3, S3, out_mono (out_bind k3) fun z4 G4 s4 H4 st4 S4 k4 w4 r4 => ?_⟩
    exact ho' cl W G4 s4 σ H4 H u w4 y z4 _ S4 (((ru.mono st3).mono st4).less st1.dom) (r4.less fun a q => st3.dom a (st2.dom a (st1.dom a q))) (out_less (((st1.trans st2).trans st3).trans st4).dom k4)
  · rename_i e
    obtain rfl := dq_bl (look_q S3 rw' e)
    refine ⟨false, rfl, ?_⟩
    rw [if_neg Bool.false_ne_true]
    exact k3 G3 H3 Stp.refl S3 _ (.bl _)
  · exact k3.elim
theorem d_chain {op op' : CmpOp} {r r' : R2} {o o' : R → R → M R} (h1 : OpR X (compareOp op) r) (h2 : OpR X (compareOp op') r') (ho : OpS X.K r o) (ho' : OpS X.K r' o') (ha : DE X cl W a f) (hb : DE X cl W b g) (hc : DE X cl W c h)
    (hm : lastMarks [op, op'] [b, c] = false := by with_unfolding_all rfl) : DE X cl W (.Compare a [op, op'] [b, c] pos) (fChain o o' f g h) := pe_imp (pe_chain h1 h2 ha hb hc hm) fun σ H Q q => chain_reads ho ho' q
theorem t_chain {op op' : CmpOp} {r r' : R2} {o o' : R → R → M R} (h1 : OpR X (compareOp op) r) (h2 : OpR X (compareOp op') r') (ho : OpS X.K r o) (ho' : OpS X.K r' o') (ha : DE X cl W a f) (hb : DE X cl W b g) (hc : DE X cl W c h)
    (hm : lastMarks [op, op'] [b, c] = false := by with_unfolding_all rfl) : DT X cl W (.Compare a [op, op'] [b, c] pos) (fB (fChain o o' f g h)) := pt_imp (pt_chain h1 h2 ha hb hc hm) fun σ H Q q => chain_reads ho ho' (test_of q)
end
section
variable {s : DSt} {f g : M R} {kvs : List (Key × PyData)} {x y : R} {d : PyData} {z : Str} {i : Int}
@[simp] theorem x_dictC {ws : List (Str × Int)} : fDictC ws s = .ok (.ob (.dict (ws.map fun p => (.inr p.1, .int p.2)))) s := Eq.trans rfl rfl
def kDGet2 (kvs : List (Key × PyData)) (y : R) (s2 : DSt) : Res R := match look y s2 with
    | some d => match keyD d with
      | some k => match valD kvs k with
        | some e => .ok (.val e) s2
        | none => .stuck
      | none => .stuck
    | none => .stuck
@[simp] theorem y_kDGet2 {s2 : DSt} : kDGet2 kvs y s2 = (match look y s2 with
    | some d => match keyD d with
      | some k => match valD kvs k with
        | some e => .ok (.val e) s2
        | none => .stuck
      | none => .stuck
    | none => .stuck) := Eq.trans rfl rfl
@[simp] theorem y_kDGet : kDGet g (.ob (.dict kvs)) s = (g s).bind (kDGet2 kvs) := Eq.trans rfl rfl
@[simp] theorem x_dget : fDGet f g s = (f s).bind (kDGet g) := Eq.trans rfl rfl
@[simp] theorem x_chain {o o' : R → R → M R} {h : M R} : fChain o o' f g h s = (f s).bind (kChain1 o o' g h) := Eq.trans rfl rfl
@[simp] theorem y_kChain1 {o o' : R → R → M R} {h : M R} : kChain1 o o' g h x s = (g s).bind (kChain2 o o' h x) := Eq.trans rfl rfl
@[simp] theorem y_kChain2 {o o' : R → R → M R} {h : M R} : kChain2 o o' h x y s = (o x y s).bind (kChain3 o' h y) := Eq.trans rfl rfl
def kChain4 (o' : R → R → M R) (y w : R) (s : DSt) : Res R := o' y w s
@[simp] theorem y_kChain4 {o' : R → R → M R} : kChain4 o' x y s = o' x y s := Eq.trans rfl rfl
@[simp] theorem y_kChain3 {o' : R → R → M R} {h : M R} {z : Bool} : kChain3 o' h y (.val (.bool z)) s = if z = true then (h s).bind (kChain4 o' y) else .ok (.val (.bool false)) s := by cases z <;> rfl
def kDIn1 (neg : Bool) (g : M R) (y : R) (s : DSt) : Res R := (g s).bind (kDIn neg y)
@[simp] theorem y_kDIn1 {neg : Bool} : kDIn1 neg g y s = (g s).bind (kDIn neg y) := Eq.trans rfl rfl
@[simp] theorem y_kDIn {neg : Bool} : kDIn neg y (.ob (.dict kvs)) s = (match look y s with
  | some d => match keyD d with
    | some k => .ok (.val (.bool (if neg then !(valD kvs k).isSome else (valD kvs k).isSome))) s
    | none => .stuck
  | none => .stuck) := by
  unfold kDIn
  cases look y s <;> rfl
@[simp] theorem x_dIn {neg : Bool} : fDIn neg f g s = (f s).bind (kDIn1 neg g) := Eq.trans rfl rfl
@[simp] theorem x_keyI : keyD (.int i) = some (.inl i) := Eq.trans rfl rfl
@[simp] theorem x_keyS : keyD (.str z) = some (.inr z) := Eq.trans rfl rfl
@[simp] theorem x_valD_nil {k : Key} : valD [] k = none := Eq.trans rfl rfl
@[simp] theorem x_valD_cons {k j : Key} : valD ((k, d) :: kvs) j = if k = j then some d else valD kvs j := valD_cons
end
end DL

/-! DL24: errors raised, caught and kept -/
noncomputable section
namespace DL
open PySem L2 PyProof.Rows PySem.Spec
open Evl (Ex)
/-! ### raise -/
def fRaise (n : String) : DSt → Flow := fun s => .err ⟨n, none⟩ s
section
variable {X : Cx} {cl : String → Addr} {W : WX} {pos : Pos}
theorem s_raise {x m : Str} {n : String} {C : Addr} {j : Nat} {p p2 pos' : Pos} (hc : X.calm = true) (tk : Takes X W) (hC : cl n = C) (q : PySem.W.excIn X.K C [.type "ValueError", .type "Exception", .type "BaseException", .type "object"] "ValueError.__new__" = true) (gC : X.mg x = some (.ref C)) (kC : PySem.W.keepIn X.K (.ref C) = true)
    (h1 : PySem.W.subIn X.K (.ref C) (.type "BaseException") = some true) (h2 : PySem.W.typeIn X.K (.ref C) = some (.type "type")) (hg : Gl X x) (hdb : (x == ("__debug__" : Str)) = false := by decide) :
    DS X cl W (.Raise (some (.Call (.Name x p) [.Constant (.str m) j p2] [] pos')) none pos) (fRaise n) :=
  ps_imp (ps_raise hc tk (pmk_own PySem.F.excBase_ValueError q gC kC (raises_own h1 h2) hg hdb)) fun D σ H ⟨G, s, S, h⟩ => h _ _ G σ H Stp.refl S ⟨by rw [hC], rfl⟩
end
/-! ### what is caught is kept: it is a thing of the heap from then on -/
section
variable {X : Cx} {pins : List (Addr × Obj)} {σ : L2.St} {H : Hp} {s sI : Shared} {a : Addr} {cls : Value} {d : Option Addr}
theorem exc_ok {P : Program} {w : World} {h : Heap} {oe : Obj} (e : h.get? a = some oe) (z : Zc cls d oe) (hv : ∃ vs, oe.data = .fields vs) : ObjOk P w H h a (excO a cls d) :=
  ⟨⟨oe, e, z, hv⟩, ⟨oe, e⟩, fun h1 h2 ⟨o, e1, z1, v1⟩ k => ⟨o, k o e1, z1, v1⟩⟩
theorem inv_more {φ : Heap → Prop} (I : Inv X pins σ H s) (n0 : X.s_0.heap.get? a = none) (hn : H a = none) (new : ∀ H', ObjOk X.prog X.w H' s.heap a (.ext φ)) (hp : ∀ p ∈ X.pn ++ pins, p.1 ≠ a) (nL : a ≠ X.env.locals)
    (nC : ∀ x c, X.env.cells.lookup x = some c → c ≠ a) : Inv X pins σ (upd H a (.ext φ)) s := by
  have ne0 : ∀ b o, X.s_0.heap.get? b = some o → b ≠ a := fun b o e z => by rw [z, n0] at e; cases e
  have neH : ∀ b o, H b = some o → b ≠ a := fun b o e z => by rw [z, hn] at e; cases e
  refine ⟨I.ok, I.os, I.bare, ⟨I.base.keep, I.base.slot, fun b o e z x => ?_, I.base.there, fun b xs e => ?_, fun b o u e => ?_, fun b ps e => ?_⟩, I.loc, I.cell, ?_, fun x c e => ?_, fun p hm => ?_, I.hok.laidN (fun _ _ q => q) hn (new _), I.len⟩
  · rw [upd_ne (ne0 b o e)]; exact I.base.free b o e z x
  · have := I.base.tups b xs e
    rw [upd_ne (neH _ _ this)]; exact this
  · have := I.base.frzs b o u e
    rw [upd_ne (neH _ _ this)]; exact this
  · obtain ⟨more, q⟩ := I.base.tbls b ps e
    exact ⟨more, by rw [upd_ne (neH _ _ q)]; exact q⟩
  · rw [upd_ne nL.symm]; exact I.free
  · rw [upd_ne (nC x c e)]; exact I.freeC x c e
  · obtain ⟨h1, h2, h3⟩ := I.pin p hm
    exact ⟨h1, by rw [upd_ne (hp p hm)]; exact h2, h3⟩
end
/-- what a try wishes of an error of its body: the one that the clause names is kept in slot j -/
def wKeep (K : PySem.W.Frag) (c : Value) (i j : Nat) (Wout : WX) (D : Ends) : WX := fun cls d σ H =>
  ∃ b, PySem.W.exmOne K cls c = some b ∧ (b = true → ∀ a, H a = none → i < σ.length ∧ D.nx (((σ.set i (some (.ref a))).set j (some (.ref a))).set i none) (upd H a (excO a cls d))) ∧ (b = false → Wout cls d σ H)
section
variable {X : Cx} {x n : Str} {c : Value} {i j : Nat} {body suite : List Stmt} {b₀ : Stmt} {np pos pos' : Pos} {tb : WX → TS} {Wout : WX}
/-- the exception's object was not there when the function began, nor among what is tracked -/
theorem try_keep (hs : X.stack = X.env :: X.outer) (hf : X.env.frame = some X.env.locals) (hx : X.ex = []) (hN : X.N.Nodup) (hi : X.N[i]? = some n) (hln : X.env.kindOf n = some .local) (hc : Names X x c) (tk : Takes X Wout)
    (hb : ∀ (W : WX) (pn : List (Addr × Obj)) (xe : Value → Shared → Prop), Takes (X.tr pn xe) W → PassesOwn (model X.prog X.w) X.A X.env xe → PSs (X.tr pn xe) body (tb W))
    (hsu : ∀ (a : Addr) (oe : Obj) (pn : List (Addr × Obj)), PSs (X.suite a ((a, oe) :: pn)) (b₀ :: suite) (tAsg (tVar i) (gName j))) :
    PS X (.Try body [.ExceptHandler (some (.Name x np)) (some n) (b₀ :: suite) pos'] [] [] pos) (fun D σ H => tb (wKeep X.K c i j Wout D) D σ H) := by
  refine ⟨fun pins s σ H D I h => ?_⟩
  have ok := I.ok
  have hfr : X.A.frames = some (X.env :: X.outer) := by rw [ok.frames, hs]
  have hloc : Loc X.env.scope n := .inl hln
  refine wpAny_Try_except ?_
  refine wpAny_mono ((hb (wKeep X.K c i j Wout D) (X.pn ++ pins) (fun e s₁ => wpAny (model X.prog X.w) X.A (noteFrame e X.env) (fun _ s₂ => wpAny (model X.prog X.w) X.A (setFlight e none) (fun _ s₃ =>
    wpAny (model X.prog X.w) X.A (handleBy e X.env [.ExceptHandler (some (.Name x np)) (some n) (b₀ :: suite) pos']) (SP X pins D) X.xe s₃) X.xe s₂) X.xe s₁) (fun u s' xx => ?_) PassesOwn.looking).run [] s σ H D (I.toTry _) h) (fun f s1 hsp => ?_) (fun e s1 he => he)
  · obtain ⟨a, B, sI, pins', σ', H', cls, d, rfl, J', nb, up, sky, na, os, ag, b, hb1, hyes, hno⟩ := xx
    have J : Inv X pins σ' H' sI := J'.ofTry ok
    have sky' : Sky B (X.env :: X.outer) a (Zc cls d) X.env.locals s'.heap := by rw [← hs]; exact sky
    show wpAny _ X.A (noteFrame (.ref a) X.env) _ _ _
    refine Sky.land Zc.steady hfr hf sky' fun h3 fl3 up3 => ?_
    have J3 : Inv X pins σ' H' { s' with heap := h3 } := J.landed nb fl3.1 (up.trans up3) os ag
    obtain ⟨oe3, vs3, he3, hz3, hd3⟩ := fl3.there
    have nfr : a ∉ frs (X.env :: X.outer) := fun hm => by
      obtain ⟨_, o', e', hnf⟩ := fl3.2.2.1.mem hm
      rw [he3] at e'; cases e'
      exact hnf _ hd3
    have nL : a ≠ X.env.locals := fun z => nfr (List.mem_filterMap.mpr ⟨X.env, List.mem_cons_self, by rw [hf, z]⟩)
    have nF : a ∉ X.fs := fun hm => by
      obtain ⟨e, he, q⟩ := List.mem_filterMap.mp hm
      exact nfr (List.mem_filterMap.mpr ⟨e, List.mem_cons_of_mem _ he, q⟩)
    -- the exception is no thing of the state without it
    have nI : sI.heap.get? a = none := by
      cases e : sI.heap.get? a with
      | none => rfl
      | some o =>
        have z := nb a o e (by rw [hs]; exact nfr)
        rw [fl3.2.1] at z; cases z
    have n0 : X.s_0.heap.get? a = none := by
      cases e : X.s_0.heap.get? a with
      | none => rfl
      | some o =>
        obtain ⟨o', z⟩ := J.base.there a o e (by rw [hx]; exact fun z => nomatch z)
        rw [nI] at z; cases z
    have npin : ∀ p ∈ X.pn ++ pins, p.1 ≠ a := fun p hp z => by
      have := (J.pin p hp).1
      rw [z, nI] at this; cases this
    have ncell : ∀ y k, X.env.cells.lookup y = some k → k ≠ a := fun y k e z => by
      obtain ⟨v, q⟩ := J.cell y k e
      obtain ⟨o, q, _⟩ := q
      rw [z, nI] at q; cases q
    have S3 := J3.suite he3 hd3 na nL nF
    refine wpAny_handleBy_cons (codeAny_handlers_test ?_) (by intro q; cases q)
    have LT : PySem.W.Looks (model X.prog X.w) h3 (typeOf (.ref a)) cls := fun A Q E s k q => wpAny_typeOf_ref (k _ _ he3) (by rw [hz3.1]; exact q)
    have LM := PySem.W.exm_one (M := model X.prog X.w) (J3.kIn) LT hb1
    have test : ∀ {Q : Value → Shared → Prop} {E : Value → Shared → Prop}, Q c { s' with heap := h3 } → wpAny (model X.prog X.w) (X.A.mark (some (.ref a))) (eval (.Name x np) X.env) Q E { s' with heap := h3 } := fun {Q E} q => by
      obtain ⟨hg, hdbg, hm | ⟨hm, hv, hnn⟩⟩ := hc
      · exact ld_glob (X := X.suite a ((a, oe3) :: (X.pn ++ pins))) S3 hg hm q hdbg
      · exact ld_blt (X := X.suite a ((a, oe3) :: (X.pn ++ pins))) S3 hg hm hv q hnn hdbg
    refine test (LM.here ?_)
    cases b with
    | true =>
      refine codeAny_handlers_suite_as ?_
      refine HandSPX.lands_againZ fl3 fun h4 fl4 up4 => ?_
      have J4 : Inv X pins σ' H' { s' with heap := h4 } := J.landed nb fl4.1 ((up.trans up3).trans up4) os ag
      obtain ⟨oe4, vs4, he4, hz4, hd4⟩ := fl4.there
      have S4 := J4.suite he4 hd4 na nL nF
      obtain ⟨il, hnx⟩ := hyes rfl a na
      refine store_ok (X := X.suite a ((a, oe4) :: (X.pn ++ pins))) (v := .ref a) S4 hN hi hloc rfl (fun s5 S5 => ?_) (.inr hln)
      refine wpAny_mono ((hsu a oe4 (X.pn ++ pins)).run [] s5 _ H' { nx := fun σ6 H6 => σ6 = (σ'.set i (some (.ref a))).set j (some (.ref a)) ∧ H6 = H', rt := fun _ _ => False, bk := fun _ _ => False, ct := fun _ _ => False } S5
        ⟨.ref a, List.getElem?_set_self il, rfl, rfl⟩) (fun f s6 hsp => ?_) (fun _ _ z => False.elim z)
      cases f with
      | next =>
        obtain ⟨σ6, H6, S6, rfl, rfl⟩ := hsp
        have P6 := (S6.pin (a, oe4) (List.mem_append_left _ List.mem_cons_self)).1
        have M6 : Inv X pins _ (upd H6 a (excO a cls d)) s6 := inv_more (S6.unsuite ok) n0 na (fun _ => exc_ok P6 hz4 ⟨_, hd4⟩) npin nL ncell
        exact gone_ok M6 hN hi hln fun s7 J7 => ⟨_, _, J7, hnx⟩
      | brk => obtain ⟨_, _, _, z⟩ := hsp; exact z.elim
      | cont => obtain ⟨_, _, _, z⟩ := hsp; exact z.elim
      | ret u => obtain ⟨_, _, _, _, _, z⟩ := hsp; exact z.elim
    | false =>
      show wpAny _ X.A (handleBy (.ref a) X.env []) _ _ _
      refine wpAny_handleBy_nil ?_
      obtain ⟨k1, k2, k3, oe, vs, T, oT, ts', he, hz, hd, h1, hr⟩ := id fl3
      unfold PySem.passOn
      refine wpAny_bind (wpAny_field he hd h1 ?_)
      rw [if_neg (show ¬ ((Value.ref T == Value.none) = true) from by simp)]
      have fin : wpAny (model X.prog X.w) X.A (setFlight (.ref a) X.env.frame) (fun _ s4 => wpAny (model X.prog X.w) X.A (throw (.ref a) : Sem PySem.Flow) (SP X pins D) X.xe s4) X.xe { s' with heap := h3 } := by
        rw [hf]
        refine HandSPX.setFlight_upZ fl3 fun h4 hh4 up4 => wpAny_throw (tk _ _ ?_)
        exact ⟨a, B, sI, pins, σ', H', cls, d, rfl, J, nb, (up.trans up3).trans up4, .inr (.inr (by rw [hs]; exact hh4)), na, os, ag, hno rfl⟩
      first
        | exact wpAny_bind (wpAny_pure (wpAny_bind fin))
        | exact wpAny_bind fin
  · cases f with
    | next =>
      obtain ⟨σ', H', J', q⟩ := hsp
      exact wpAny_execs_nil ⟨σ', H', J'.ofTry ok, q⟩
    | brk =>
      obtain ⟨σ', H', J', q⟩ := hsp
      exact ⟨σ', H', J'.ofTry ok, q⟩
    | cont =>
      obtain ⟨σ', H', J', q⟩ := hsp
      exact ⟨σ', H', J'.ofTry ok, q⟩
    | ret u =>
      obtain ⟨v, σ', H', J', r, q⟩ := hsp
      exact ⟨v, σ', H', J'.ofTry ok, r, q⟩
end
/-! ### try: .. except FolkError as e: caught = e -/
def isCaught (ns : List String) (x : Exn) : Bool := ns.contains x.name && (match x.arg with | none => true | some _ => false)
def fTry (ns : List String) (i j : Nat) (p : DSt → Flow) : DSt → Flow := fun s => match p s with
  | .err x s' => if isCaught ns x = true ∧ i < s'.d.length ∧ j < s'.d.length ∧ i ≠ j then .next (putS i .no (putS j (.ob (.exc x)) s')) else .stuck
  | fl => fl
section
variable {K : PySem.W.Frag} {G H G0 H0 : Hp} {s s0 : DSt} {σ σ0 : L2.St}
theorem own_no {i j : Nat} {v : Option V} {a : Addr} (hi : i < s.d.length) : OwnAt (putS i .no s) (σ.set i v) j a → j ≠ i ∧ OwnAt s σ j a := by
  rintro ⟨⟨ds, e⟩, h⟩
  by_cases q : j = i
  · subst q
    unfold putS at e
    simp only [List.getElem?_set_self hi] at e
    cases e
  · unfold putS at e
    simp only [List.getElem?_set_ne (Ne.symm q)] at e
    rw [List.getElem?_set_ne (Ne.symm q)] at h
    exact ⟨q, ⟨ds, e⟩, h⟩
theorem no_ok {i : Nat} {v : Option V} (S : SA K G s σ H) (hi : i < s.d.length) : SA K G (putS i .no s) (σ.set i v) H := by
  refine ⟨by simp [putS, S.len], S.gh, fun j sl h => ?_, fun j k a h1 h2 => S.inj j k a (own_no hi h1).2 (own_no hi h2).2, fun j a h => S.ownG j a (own_no hi h).2, S.pw, fun j a h => S.pne j a (own_no hi h).2⟩
  by_cases q : j = i
  · subst q
    simp only [putS, List.getElem?_set_self hi] at h
    cases h
    trivial
  · simp only [putS, List.getElem?_set_ne (Ne.symm q)] at h
    rw [List.getElem?_set_ne (Ne.symm q)]
    exact S.slot j sl h
theorem no_stp {i : Nat} {v : Option V} (st : Stp G0 s0 σ0 H0 G s σ H) (hi : i < s.d.length) : Stp G0 s0 σ0 H0 G (putS i .no s) (σ.set i v) H := by
  refine ⟨st.ex, st.keep, fun a z => ?_, st.dom, st.pw⟩
  rcases z with ⟨j, z⟩ | z
  · exact st.own a (.inl ⟨j, (own_no hi z).2⟩)
  · exact st.own a (.inr z)
end
theorem set_thrice {σ : L2.St} {i j : Nat} {u v : Option V} (h : i ≠ j) : ((σ.set i u).set j v).set i none = (σ.set j v).set i none := by
  apply List.ext_getElem?
  intro k
  by_cases q : k = i
  · subst q
    simp [List.getElem?_set]
  · simp [List.getElem?_set_ne (Ne.symm q)]
    by_cases q2 : k = j
    · subst q2; simp [List.getElem?_set]
    · simp [List.getElem?_set_ne (Ne.symm q2), List.getElem?_set_ne (Ne.symm q)]
section
variable {X : Cx} {cl : String → Addr} {W : WX} {x n : Str} {C : Addr} {i j : Nat} {body suite : List Stmt} {b₀ : Stmt} {np pos pos' : Pos} {p : DSt → Flow}
theorem try_out {K : PySem.W.Frag} {ns : List String} {G H : Hp} {s : DSt} {σ : L2.St} {D : Ends} (hcl : cl = clOf K) (hex : ∀ m ∈ ns, PySem.W.exmOne K (.ref (clOf K m)) (.ref C) = some true) (h : FOut K cl W G s σ H (fTry ns i j p s) D) : FOut K cl (wKeep K (.ref C) i j W D) G s σ H (p s) D := by
  unfold fTry at h
  cases e : p s with
  | next s' => rw [e] at h; exact h
  | brk s' => rw [e] at h; exact h
  | cnt s' => rw [e] at h; exact h
  | ret r s' => rw [e] at h; exact h
  | stuck => rw [e] at h; exact h
  | err z s' =>
    rw [e] at h
    dsimp only at h
    split at h
    · rename_i hh
      obtain ⟨h1, hi, hj, hij⟩ := hh
      obtain ⟨zn, za⟩ := z
      unfold isCaught at h1
      simp only [Bool.and_eq_true, List.contains_iff_mem] at h1
      obtain ⟨hm, ha0⟩ := h1
      have za0 : za = none := by
        cases za with
        | none => rfl
        | some _ => cases ha0
      subst za0
      intro cls d G' σ' H' st S' xr
      obtain ⟨ec, ed⟩ := xr
      have ed : d = none := ed
      subst ec ed hcl
      refine ⟨true, hex zn hm, fun _ a ha => ⟨by rw [← S'.len]; exact hi, ?_⟩, fun q => nomatch q⟩
      rw [set_thrice hij]
      obtain ⟨st2, S2⟩ := new_known (excO a (.ref (clOf K zn)) none) S' ha
      have S3 := put_ok (x := .ob (.exc ⟨zn, none⟩)) (v := .ref a) S2 hj ⟨_, rfl, a, none, rfl, upd_same, rfl⟩ (fun _ _ q => nomatch q)
      have st3 := put_stp (x := .ob (.exc ⟨zn, none⟩)) (v := .ref a) S2 (st.trans st2) hj (fun _ _ q => nomatch q)
      have hi3 : i < (putS j (.ob (.exc ⟨zn, none⟩)) s').d.length := by simpa [putS] using hi
      exact h _ _ _ (no_stp st3 hi3) (no_ok S3 hi3)
    · exact h.elim
theorem s_try {ns : List String} (hcl : cl = clOf X.K) (hex : ∀ m ∈ ns, PySem.W.exmOne X.K (.ref (clOf X.K m)) (.ref C) = some true) (hs : X.stack = X.env :: X.outer) (hf : X.env.frame = some X.env.locals) (hx : X.ex = []) (hN : X.N.Nodup) (hi : X.N[i]? = some n) (hln : X.env.kindOf n = some .local) (hc : Names X x (.ref C)) (tk : Takes X W)
    (hb : ∀ (W : WX) (pn : List (Addr × Obj)) (xe : Value → Shared → Prop), Takes (X.tr pn xe) W → PassesOwn (model X.prog X.w) X.A X.env xe → DSs (X.tr pn xe) cl W body p)
    (hsu : ∀ (a : Addr) (oe : Obj) (pn : List (Addr × Obj)), PSs (X.suite a ((a, oe) :: pn)) (b₀ :: suite) (tAsg (tVar i) (gName j))) :
    DS X cl W (.Try body [.ExceptHandler (some (.Name x np)) (some n) (b₀ :: suite) pos'] [] [] pos) (fTry ns i j p) :=
  ps_imp (try_keep (tb := fun W => tS X.K cl W p) hs hf hx hN hi hln hc tk hb hsu) fun D σ H ⟨G, s, S, h⟩ => ⟨G, s, S, try_out hcl hex h⟩
end
/-! ### isinstance of what was caught -/
/-- isinstance(e, c), e kept -/
def rIsX (K : PySem.W.Frag) : List V → Hp → VK → Prop := fun xs H Q => ∃ (a D : Addr) (c : V) (cv : Value) (b : Bool), xs = [.ref a, c] ∧ H a = some (excO a (.ref D) none) ∧ ExcC K D ∧ ClsV c cv ∧ PySem.W.kitOne K (.ref D) cv = some b ∧ Q (.bl b) H
theorem call_isX {X : Cx} : CallR X (.builtin "isinstance") (rIsX X.K) := by
  intro pins s σ H xs us Q I r h
  obtain ⟨a, D, c, cv, b, rfl, ha, C, hcv, e, q⟩ := h
  obtain ⟨u1, u2, rfl, r1, r2⟩ := vals2 r
  cases (show u1 = Value.ref a from r1)
  have ec := hcv.eq r2
  subst ec
  obtain ⟨⟨oe, h1, z, vs, hv⟩, _⟩ := (show ObjOk X.prog X.w H s.heap a (excO a (.ref D) none) from I.hok a _ ha)
  have J : PySem.W.InstAt s.heap a oe D none := by
    obtain ⟨oc, od, oda, osl⟩ := oe
    obtain ⟨z1, z2⟩ := z
    dsimp only at z1 z2 hv
    subst z1 z2 hv
    exact ⟨h1, rfl, rfl, trivial⟩
  exact PySem.W.kia_one (PySem.W.handS_kitx_exc C.hg C.hk C.hs C.hd C.ha C.hn C.ht C.hm) I.kIn J e (fun z => nomatch z) fun tk => ⟨.bl b, H, I.kept (t' := tk) fun _ _ z => z, rfl, q⟩
/-- what the text says of an error's class -/
structure ExF (K : PySem.W.Frag) (mg : Str → Option Value) (n : String) : Prop where
  g : mg (Str.ofString n) = some (.ref (clOf K n))
  x : PySem.W.excIn K (clOf K n) [.type "ValueError", .type "Exception", .type "BaseException", .type "object"] "ValueError.__new__" = true
  kp : PySem.W.keepIn K (.ref (clOf K n)) = true
  b : PySem.W.subIn K (.ref (clOf K n)) (.type "BaseException") = some true
  ty : PySem.W.typeIn K (.ref (clOf K n)) = some (.type "type")
  c : ExcC K (clOf K n)
  v : PySem.W.subIn K (.ref (clOf K n)) (.type "ValueError") = some true
/-- what is known of a list of classes: each is an instance of itself alone, and of FolkError, of ValueError -/
structure ExFs (K : PySem.W.Frag) (mg : Str → Option Value) (ns : List String) : Prop where
  each : ∀ n ∈ ns, ExF K mg n
  top : ∀ n ∈ ns, PySem.W.exmOne K (.ref (clOf K n)) (.ref (clOf K "FolkError")) = some true
  two : ∀ n ∈ ns, ∀ m ∈ ns, PySem.W.kitOne K (.ref (clOf K n)) (.ref (clOf K m)) = some (n == m)
  gF : mg "FolkError" = some (.ref (clOf K "FolkError"))
/-- isinstance(e, m): e kept or data; m an own class of an error -/
def fIsX (ns : List String) (m : String) (f : M R) : M R := bnd f fun r s => match r with
  | .ob (.exc ⟨n, none⟩) => if n ∈ ns ∧ m ∈ ns then .ok (.val (.bool (n == m))) s else .stuck
  | _ => .stuck
/-- isinstance(e, ValueError) -/
def fIsV (ns : List String) (f : M R) : M R := bnd f fun r s => match r with
  | .ob (.exc ⟨n, none⟩) => if n ∈ ns then .ok (.val (.bool true)) s else .stuck
  | _ => .stuck
section
variable {X : Cx} {cl : String → Addr} {W : WX} {e : Expr} {f : M R} {pos : Pos}
theorem d_isX {ns : List String} {m : String} {x : Str} {p p2 : Pos} (T : ExFs X.K X.mg ns) (hg : Gl X "isinstance") (hm : X.mg "isinstance" = none) (ha : DE X cl W e f) (hx : PE X (.Name x p2) (tC (.ref (clOf X.K m))))
    (he : starEach (e :: [.Name x p2]) X.env = (false, eval e X.env) :: starEach [.Name x p2] X.env := by rfl) (he2 : starEach [.Name x p2] X.env = (false, eval (.Name x p2) X.env) :: starEach [] X.env := by rfl) (hpl : (backTo pos (starEach [.Name x p2] X.env)).any (·.1) = false := by rfl) :
    DE X cl W (.Call (.Name "isinstance" p) [e, .Name x p2] [] pos) (fIsX ns m f) := by
  refine pe_imp (pe_callB call_isX hg hm (by decide +kernel) (pa_cons ha (pa_cons hx pa_nil he2) he) (by decide) (by decide) he hpl) fun σ H Q ⟨G, s, S, q⟩ => ?_
  refine ⟨G, s, S, out_mono (out_bind q) fun r G1 s1 H1 st1 S1 k v rr => ?_⟩
  split at k
  · rename_i n
    split at k
    · rename_i hh
      obtain ⟨a, d, rfl, hga, hd⟩ := rr
      have hd : d = none := hd
      subst hd
      exact ⟨a, _, _, _, _, rfl, S1.gh _ _ hga, (T.each n hh.1).c, .own _, T.two n hh.1 m hh.2, k G1 H1 Stp.refl S1 _ (.bl _)⟩
    · exact k.elim
  · exact k.elim
theorem kit_V {K : PySem.W.Frag} {D : Addr} (h : PySem.W.subIn K (.ref D) (.type "ValueError") = some true) : PySem.W.kitOne K (.ref D) (.type "ValueError") = some true := by
  unfold PySem.W.kitOne
  rw [if_neg (by intro z; have := beq_iff_eq.mp z; cases this)]
  show (if PySem.W.kitMeta "ValueError" = true then PySem.W.subIn K (.ref D) (.type "ValueError") else none) = _
  rw [if_pos (by decide +kernel)]
  exact h
theorem d_isV {ns : List String} {p p2 : Pos} {mg : Str → Option Value} (T : ExFs X.K mg ns) (hg : Gl X "isinstance") (hm : X.mg "isinstance" = none) (ha : DE X cl W e f) (hx : PE X (.Name "ValueError" p2) (tC (.ty "ValueError")))
    (he : starEach (e :: [.Name "ValueError" p2]) X.env = (false, eval e X.env) :: starEach [.Name "ValueError" p2] X.env := by rfl) (he2 : starEach [.Name "ValueError" p2] X.env = (false, eval (.Name "ValueError" p2) X.env) :: starEach [] X.env := by rfl) (hpl : (backTo pos (starEach [.Name "ValueError" p2] X.env)).any (·.1) = false := by rfl) :
    DE X cl W (.Call (.Name "isinstance" p) [e, .Name "ValueError" p2] [] pos) (fIsV ns f) := by
  refine pe_imp (pe_callB call_isX hg hm (by decide +kernel) (pa_cons ha (pa_cons hx pa_nil he2) he) (by decide) (by decide) he hpl) fun σ H Q ⟨G, s, S, q⟩ => ?_
  refine ⟨G, s, S, out_mono (out_bind q) fun r G1 s1 H1 st1 S1 k v rr => ?_⟩
  split at k
  · rename_i n
    split at k
    · rename_i hh
      obtain ⟨a, d, rfl, hga, hd⟩ := rr
      have hd : d = none := hd
      subst hd
      exact ⟨a, _, _, _, _, rfl, S1.gh _ _ hga, (T.each n hh).c, .ty _, kit_V (T.each n hh).v, k G1 H1 Stp.refl S1 _ (.bl _)⟩
    · exact k.elim
  · exact k.elim
end
section
variable {s : DSt} {f : M R} {p : DSt → Flow}
@[simp] theorem x_raise {n : String} : fRaise n s = .err ⟨n, none⟩ s := Eq.trans rfl rfl
def kTry (ns : List String) (i j : Nat) (fl : Flow) : Flow := match fl with
  | .err x s' => if isCaught ns x = true ∧ i < s'.d.length ∧ j < s'.d.length ∧ i ≠ j then .next (putS i .no (putS j (.ob (.exc x)) s')) else .stuck
  | fl => fl
@[simp] theorem x_try {ns : List String} {i j : Nat} : fTry ns i j p s = kTry ns i j (p s) := by
  unfold fTry kTry
  cases p s <;> rfl
@[simp] theorem y_kTry_next {ns : List String} {i j : Nat} : kTry ns i j (.next s) = .next s := Eq.trans rfl rfl
@[simp] theorem y_kTry_ret {ns : List String} {i j : Nat} {r : R} : kTry ns i j (.ret r s) = .ret r s := Eq.trans rfl rfl
@[simp] theorem y_kTry_err {ns : List String} {i j : Nat} {n : String} : kTry ns i j (.err ⟨n, none⟩ s) = if n ∈ ns ∧ i < s.d.length ∧ j < s.d.length ∧ i ≠ j then .next (putS i .no (putS j (.ob (.exc ⟨n, none⟩)) s)) else .stuck := by
  show (if isCaught ns ⟨n, none⟩ = true ∧ _ then _ else _) = _
  have : isCaught ns ⟨n, none⟩ = true ↔ n ∈ ns := by simp [isCaught]
  simp only [this]
def kIsX (ns : List String) (m : String) (r : R) (s : DSt) : Res R := match r with
  | .ob (.exc ⟨n, none⟩) => if n ∈ ns ∧ m ∈ ns then .ok (.val (.bool (n == m))) s else .stuck
  | _ => .stuck
@[simp] theorem y_kIsX {ns : List String} {n m : String} : kIsX ns m (.ob (.exc ⟨n, none⟩)) s = if n ∈ ns ∧ m ∈ ns then .ok (.val (.bool (n == m))) s else .stuck := Eq.trans rfl rfl
@[simp] theorem x_isX {ns : List String} {m : String} : fIsX ns m f s = (f s).bind (kIsX ns m) := Eq.trans rfl rfl
def kIsV (ns : List String) (r : R) (s : DSt) : Res R := match r with
  | .ob (.exc ⟨n, none⟩) => if n ∈ ns then .ok (.val (.bool true)) s else .stuck
  | _ => .stuck
@[simp] theorem y_kIsV {ns : List String} {n : String} : kIsV ns (.ob (.exc ⟨n, none⟩)) s = if n ∈ ns then .ok (.val (.bool true)) s else .stuck := Eq.trans rfl rfl
@[simp] theorem x_isV {ns : List String} : fIsV ns f s = (f s).bind (kIsV ns) := Eq.trans rfl rfl
end
/-! ### the facts of the classes, from the written part -/
section
variable {K : PySem.W.Frag} {h : Heap} {mg : Str → Option Value} {n m : String} {C D : Addr}
theorem ex_mk (X : PySem.W.Frag.In K h) (G : h.Ns mainGlobals mg) (a : PySem.W.nsIn K mainGlobals (Str.ofString n) = some (some (.ref C))) (x : PySem.W.excIn K C [.type "ValueError", .type "Exception", .type "BaseException", .type "object"] "ValueError.__new__" = true) (kp : PySem.W.keepIn K (.ref C) = true)
    (b : PySem.W.subIn K (.ref C) (.type "BaseException") = some true) (ty : PySem.W.typeIn K (.ref C) = some (.type "type")) (v : PySem.W.subIn K (.ref C) (.type "ValueError") = some true) (hd : PySem.W.hasDictIn K C = true)
    (hg : PySem.W.findIn K (.ref C) "__getattribute__" = some (some (.builtin "BaseException.__getattribute__"))) (hk : PySem.W.findIn K (.ref C) "__getattr__" = some none) (hc : PySem.W.findIn K (.ref C) "__class__" = some (some (.builtin "object.__class__")))
    (hm : PySem.W.mroIn K C (.type "object") = some true) (s0 : PySem.W.specialIn K (.builtin "object.__class__") "__get__" = some (some (.builtin "getset_descriptor.__get__"))) (t0 : PySem.W.takesIn K (.builtin "object.__class__") = some true) : ExF K mg n := by
  have g := PySem.W.mg_of X G a
  have e := clOf_of a
  subst e
  exact ⟨g, x, kp, b, ty, ⟨hg, hk, b, hd, hc, s0, t0, hm⟩, v⟩
theorem top_mk (a : PySem.W.nsIn K mainGlobals (Str.ofString n) = some (some (.ref C))) (aF : PySem.W.nsIn K mainGlobals "FolkError" = some (some (.ref D))) (b : PySem.W.subIn K (.ref D) (.type "BaseException") = some true) (hd : PySem.W.hasDictIn K D = true)
    (ty : PySem.W.typeIn K (.ref D) = some (.type "type")) (s : PySem.W.subIn K (.ref C) (.ref D) = some true) : PySem.W.exmOne K (.ref (clOf K n)) (.ref (clOf K "FolkError")) = some true := by
  have eF : clOf K "FolkError" = D := clOf_of aF
  rw [clOf_of a, eF]
  exact PySem.W.exm_ref b hd ty s
theorem two_eq : PySem.W.kitOne K (.ref (clOf K n)) (.ref (clOf K n)) = some (n == n) := by
  unfold PySem.W.kitOne
  rw [if_pos (by simp)]
  simp
theorem two_mk (a : PySem.W.nsIn K mainGlobals (Str.ofString n) = some (some (.ref C))) (a2 : PySem.W.nsIn K mainGlobals (Str.ofString m) = some (some (.ref D))) (s : PySem.W.subIn K (.ref C) (.ref D) = some false) (s2 : PySem.W.subIn K (.ref C) (.ref C) = some true)
    (hd : PySem.W.hasDictIn K D = true) (ty : PySem.W.typeIn K (.ref D) = some (.type "type")) (hne : n ≠ m) : PySem.W.kitOne K (.ref (clOf K n)) (.ref (clOf K m)) = some (n == m) := by
  rw [clOf_of a, clOf_of a2]
  have ne : C ≠ D := fun z => by subst z; rw [s] at s2; cases s2
  unfold PySem.W.kitOne
  rw [if_neg (by intro z; exact ne (Value.ref.inj (beq_iff_eq.mp z)))]
  obtain ⟨cd, hc, _⟩ := PySem.W.any_some hd
  show (if ((PySem.W.clsIn K D).isSome && PySem.W.typeIn K (.ref D) == some (.type "type")) = true then PySem.W.subIn K (.ref C) (.ref D) else none) = _
  rw [if_pos (by rw [hc, ty] <;> rfl), s, beq_eq_false_iff_ne.mpr hne]
theorem mgF_mk (X : PySem.W.Frag.In K h) (G : h.Ns mainGlobals mg) (a : PySem.W.nsIn K mainGlobals "FolkError" = some (some (.ref C))) : mg "FolkError" = some (.ref (clOf K "FolkError")) := by
  have g := PySem.W.mg_of X G a
  have e : clOf K "FolkError" = C := clOf_of a
  subst e
  exact g
end
end DL

/-! DL25: the script, bits, a law without a purse -/
noncomputable section
namespace DL
open PySem L2 PyProof.Rows
open Evl (Ex)
def kScLen (x : R) (s : DSt) : Res R := match x with
  | .ob (.scr ns) => .ok (.val (.int ns.length)) s
  | _ => .stuck
def fScLen (f : M R) : M R := bnd f kScLen
def kScIx (g : M R) (x : R) (s : DSt) : Res R := match x with
  | .ob (.scr ns) => (g s).bind fun y s2 => match look y s2 with
    | some (.int n) => match atI ns n with
      | some z => .ok (.val (.int z)) s2
      | none => .stuck
    | _ => .stuck
  | _ => .stuck
def fScIx (f g : M R) : M R := bnd f (kScIx g)
def andO : PyData → PyData → Option R
  | .int i, .int j => some (.val (.int (Builtin.bitAnd i j)))
  | _, _ => none
theorem opd_and {K : PySem.W.Frag} : OpD K (rI0 fun i j => .int (Builtin.bitAnd i j)) andO := by
  intro G H x y d e r Q ex hx hy ho k
  unfold andO at ho
  split at ho
  · cases ho
    obtain rfl := dq_int hx
    obtain rfl := dq_int hy
    exact ⟨_, _, rfl, rfl, k.1 _ (.int _)⟩
  · cases ho
section
variable {X : Cx} {cl : String → Addr} {W : WX} {a b x e : Expr} {f g : M R} {pos : Pos}
theorem d_and (ha : DE X cl W a f) (hb : DE X cl W b g) : DE X cl W (.BinOp a .BitAnd b pos) (fOp (lift2 andO) f g) := d_op2 (pe_op op_and) (ops_lift opd_and) ha hb
theorem d_scLen {p : Pos} (hg : Gl X "len") (hm : X.mg "len" = none) (hx : DE X cl W x f)
    (he : starEach (x :: []) X.env = (false, eval x X.env) :: starEach [] X.env := by rfl) (hpl : (backTo pos (starEach [] X.env)).any (·.1) = false := by rfl) : DE X cl W (.Call (.Name "len" p) [x] [] pos) (fScLen f) := by
  refine pe_imp (pe_callB call_len_seq hg hm (by decide +kernel) (pa_cons hx pa_nil he) (by decide) (by decide) he hpl) fun σ H Q ⟨G, s, S, h⟩ => ?_
  refine ⟨G, s, S, out_mono (out_bind h) fun r G1 s1 H1 st1 S1 k v rr => ?_⟩
  unfold kScLen at k
  split at k
  · rename_i ns
    obtain ⟨p, rfl, hl⟩ := rr
    refine ⟨p, _, rfl, .inl (Evl.ex_l S1.gh hl), ?_⟩
    have := k G1 H1 Stp.refl S1 _ (.int _)
    rw [List.length_map]
    exact this
  · exact k.elim
theorem d_scIx (ha : DE X cl W a f) (hb : DE X cl W b g) (hs : PlainIx b) : DE X cl W (.Subscript a b pos) (fScIx f g) := by
  refine pe_imp (pe_ix ix_seq ha hb hs) fun σ H Q ⟨G, s, S, q⟩ => ?_
  refine ⟨G, s, S, out_mono (out_bind q) fun r G1 s1 H1 st1 S1 k v rr => ?_⟩
  unfold kScIx at k
  split at k
  · rename_i ns
    obtain ⟨p, rfl, hl⟩ := rr
    refine ⟨G1, s1, S1, out_mono (out_bind k) fun r2 G2 s2 H2 st2 S2 k2 u ru => ?_⟩
    split at k2
    · rename_i n en
      split at k2
      · rename_i z ez
        obtain rfl := dq_int (look_q S2 ru en)
        exact .inl ⟨p, _, n, _, rfl, rfl, Evl.ex_l (st2.ex.trans S2.gh) hl, atI_map ez, k2 G2 H2 Stp.refl S2 _ (.int z)⟩
      · exact k2.elim
    · exact k2.elim
  · exact k.elim
@[simp] theorem x_scLen {s : DSt} : fScLen f s = (f s).bind kScLen := Eq.trans rfl rfl
@[simp] theorem x_kScLen {ns : List Int} {s : DSt} : kScLen (.ob (.scr ns)) s = .ok (.val (.int ns.length)) s := Eq.trans rfl rfl
@[simp] theorem x_scIx {s : DSt} : fScIx f g s = (f s).bind (kScIx g) := Eq.trans rfl rfl
def kScIx2 (ns : List Int) (y : R) (s2 : DSt) : Res R := match look y s2 with
    | some (.int n) => match atI ns n with
      | some z => .ok (.val (.int z)) s2
      | none => .stuck
    | _ => .stuck
@[simp] theorem x_kScIx {ns : List Int} {s : DSt} : kScIx g (.ob (.scr ns)) s = (g s).bind (kScIx2 ns) := Eq.trans rfl rfl
@[simp] theorem x_kScIx2 {ns : List Int} {i : Int} {s : DSt} : kScIx2 ns (.val (.int i)) s = (match atI ns i with | some z => .ok (.val (.int z)) s | none => .stuck) := Eq.trans rfl rfl
@[simp] theorem x_bitAnd {i j : Int} : andO (.int i) (.int j) = some (.val (.int (Builtin.bitAnd i j))) := Eq.trans rfl rfl
end
/-! ### classes that nothing of the law raises -/
structure ExY (K : PySem.W.Frag) (mg : Str → Option Value) (ns : List String) (m : String) : Prop where
  g : mg (Str.ofString m) = some (.ref (clOf K m))
  two : ∀ n ∈ ns, PySem.W.kitOne K (.ref (clOf K n)) (.ref (clOf K m)) = some false
def kIsY (ns : List String) (m : String) (r : R) (s : DSt) : Res R := match r with
  | .ob (.exc ⟨n, none⟩) => if n ∈ ns then .ok (.val (.bool false)) s else .stuck
  | _ => .stuck
def fIsY (ns : List String) (m : String) (f : M R) : M R := bnd f (kIsY ns m)
@[simp] theorem x_isY {ns : List String} {m : String} {f : M R} {s : DSt} : fIsY ns m f s = (f s).bind (kIsY ns m) := Eq.trans rfl rfl
@[simp] theorem y_kIsY {ns : List String} {n m : String} {s : DSt} : kIsY ns m (.ob (.exc ⟨n, none⟩)) s = if n ∈ ns then .ok (.val (.bool false)) s else .stuck := Eq.trans rfl rfl
theorem d_isY {X : Cx} {cl : String → Addr} {W : WX} {e : Expr} {f : M R} {pos : Pos} {ns : List String} {m : String} {x : Str} {p p2 : Pos} (T : ExFs X.K X.mg ns) (Y : ExY X.K X.mg ns m) (hg : Gl X "isinstance") (hm : X.mg "isinstance" = none) (ha : DE X cl W e f) (hx : PE X (.Name x p2) (tC (.ref (clOf X.K m))))
    (he : starEach (e :: [.Name x p2]) X.env = (false, eval e X.env) :: starEach [.Name x p2] X.env := by rfl) (he2 : starEach [.Name x p2] X.env = (false, eval (.Name x p2) X.env) :: starEach [] X.env := by rfl) (hpl : (backTo pos (starEach [.Name x p2] X.env)).any (·.1) = false := by rfl) :
    DE X cl W (.Call (.Name "isinstance" p) [e, .Name x p2] [] pos) (fIsY ns m f) := by
  refine pe_imp (pe_callB call_isX hg hm (by decide +kernel) (pa_cons ha (pa_cons hx pa_nil he2) he) (by decide) (by decide) he hpl) fun σ H Q ⟨G, s, S, q⟩ => ?_
  refine ⟨G, s, S, out_mono (out_bind q) fun r G1 s1 H1 st1 S1 k v rr => ?_⟩
  unfold kIsY at k
  split at k
  · rename_i n
    split at k
    · rename_i hh
      obtain ⟨a, d, rfl, hga, hd⟩ := rr
      have hd : d = none := hd
      subst hd
      exact ⟨a, _, _, _, _, rfl, S1.gh _ _ hga, (T.each n hh).c, .own _, Y.two n hh, k G1 H1 Stp.refl S1 _ (.bl _)⟩
    · exact k.elim
  · exact k.elim
theorem two2_mk {K : PySem.W.Frag} {n m : String} {C D : Addr} (a : PySem.W.nsIn K mainGlobals (Str.ofString n) = some (some (.ref C))) (a2 : PySem.W.nsIn K mainGlobals (Str.ofString m) = some (some (.ref D))) (s : PySem.W.subIn K (.ref C) (.ref D) = some false) (s2 : PySem.W.subIn K (.ref C) (.ref C) = some true)
    (hd : PySem.W.hasDictIn K D = true) (ty : PySem.W.typeIn K (.ref D) = some (.type "type")) : PySem.W.kitOne K (.ref (clOf K n)) (.ref (clOf K m)) = some false := by
  rw [clOf_of a, clOf_of a2]
  have ne : C ≠ D := fun z => by subst z; rw [s] at s2; cases s2
  unfold PySem.W.kitOne
  rw [if_neg (by intro z; exact ne (Value.ref.inj (beq_iff_eq.mp z)))]
  obtain ⟨cd, hc, _⟩ := PySem.W.any_some hd
  show (if ((PySem.W.clsIn K D).isSome && PySem.W.typeIn K (.ref D) == some (.type "type")) = true then PySem.W.subIn K (.ref C) (.ref D) else none) = _
  rw [if_pos (by rw [hc, ty] <;> rfl), s]
theorem gY_mk {K : PySem.W.Frag} {h : Heap} {mg : Str → Option Value} {m : String} {C : Addr} (X : PySem.W.Frag.In K h) (G : h.Ns mainGlobals mg) (a : PySem.W.nsIn K mainGlobals (Str.ofString m) = some (some (.ref C))) : mg (Str.ofString m) = some (.ref (clOf K m)) := by
  have g := PySem.W.mg_of X G a
  rw [clOf_of a]
  exact g
def LawOkS (n : Nat) (p : DSt → Flow) : Prop := ∀ ns : List Int, ns.length ≤ 63 → ∃ s', p ⟨Sl.ob (.scr ns) :: List.replicate (n - 1) Sl.no, none⟩ = .ret (.val (.bool true)) s'
section
variable {P : Program} {w : World} {K : PySem.W.Frag} {mg : Str → Option Value} {base : Heap} {cl : String → Addr}
/-- a law: all on data -/
theorem law_ok2 {st : Stmt} {x : Str} {N : List Str} {k : Nat} {p : DSt → Flow} {arg : Str} {f : Addr} {fd : FuncData} (F : Fun K x x st f fd) (S : FnScope N [arg] (defScope st))
    (hb : ∀ (f : Addr) (cdv : Value) (A : Around) (outer : List Env) (s : Shared) (H : Hp) (E : XK), RoomG k (A.deeper (envOfC x (defScope st) s.heap.objs.size f cdv)) →
      DSs (cxOf (L2.CX P w) P w K mg base N x (defScope st) f cdv A outer s H E) cl (fun cls d _ H => E cls d H) (defBody st) p)
    (hp : LawOkS N.length p) : FnG P w K mg base (L2.CX P w) (k + 1) f fd [arg] (spLaw K) := by
  refine okG F S (fun vs H Q E h => ?_) (fun cdv A outer s H vs Q E hr h => ?_)
  · obtain ⟨a, ns, rfl, _⟩ := h; rfl
  · refine ⟨_, hb f cdv A outer s H E hr, ?_⟩
    obtain ⟨a, ns, rfl, hs, hl, q⟩ := h
    obtain ⟨s', hp1⟩ := hp ns hl
    have hst : L2.start N [V.ref a] = some (.ref a) :: List.replicate (N.length - 1) none := rfl
    have noown : ∀ (σ : L2.St) (j : Nat) (c : Addr), ¬ OwnAt ⟨Sl.ob (.scr ns) :: List.replicate (N.length - 1) Sl.no, none⟩ σ j c := by
      rintro σ j c ⟨⟨ds, e⟩, _⟩
      match j with
      | 0 => cases e
      | j + 1 =>
        simp only [List.getElem?_cons_succ, List.getElem?_replicate] at e
        split at e <;> cases e
    -- the script is known from the start: all of the heap is taken as known
    refine ⟨H, ⟨Sl.ob (.scr ns) :: List.replicate (N.length - 1) Sl.no, none⟩, ⟨?_, Ex.refl H, fun j sl e => ?_, fun j _ c z => (noown _ j c z).elim, fun j c z => (noown _ j c z).elim, trivial, fun j c z => (noown _ j c z).elim⟩, ?_⟩
    · rw [hst]; simp
    · rw [hst]
      match j with
      | 0 =>
        cases e
        exact ⟨.ref a, rfl, a, rfl, hs⟩
      | j + 1 =>
        simp only [List.getElem?_cons_succ, List.getElem?_replicate] at e
        split at e
        · cases e; trivial
        · cases e
    · show FOut K cl _ _ _ _ _ (p _) _
      rw [hp1]
      intro v G' σ' H2 st' S' rr
      cases rr
      exact q H2
end
end DL

/-! DL26: bool(x) -/
noncomputable section
namespace DL
open PySem L2 PyProof.Rows
open Evl (Ex)
def boolO : List PyData → Option R
  | [.int i] => some (.val (.bool (i != 0)))
  | [.bool b] => some (.val (.bool b))
  | _ => none
theorem cd_bool {K : PySem.W.Frag} : CallD K (fun xs H Q => (∃ i, xs = [.int i] ∧ Q (.bl (i != 0)) H) ∨ ∃ k, xs = [.bl k] ∧ Q (.bl k) H) boolO := by
  intro G H vs ds r' Q ex hv ho k
  unfold boolO at ho
  split at ho
  · cases ho
    cases hv with
    | cons h t =>
      cases t
      obtain rfl := dq_int h
      exact .inl ⟨_, rfl, k.1 _ (.bl _)⟩
  · cases ho
    cases hv with
    | cons h t =>
      cases t
      obtain rfl := dq_bl h
      exact .inr ⟨_, rfl, k.1 _ (.bl _)⟩
  · cases ho
@[simp] theorem x_boolI {a : Int} : boolO [.int a] = some (.val (.bool (a != 0))) := Eq.trans rfl rfl
@[simp] theorem x_boolB {b : Bool} : boolO [.bool b] = some (.val (.bool b)) := Eq.trans rfl rfl
end DL

/-! DL27: a comprehension over an own list that stays own -/
noncomputable section
namespace DL
open PySem L2 PyProof.Rows
open Evl (Ex)
def isOwnL (j : Nat) (ds : List PyData) (s : DSt) : Prop := s.d[j]? = some (.own ds)
instance (j : Nat) (ds : List PyData) (s : DSt) : Decidable (isOwnL j ds s) := Classical.propDecidable _
def loopCO (j : Nat) (all : List PyData) (b : Bd) (ft : M Bool) (fe : M R) (vs : List Nat) : List PyData → List PyData → M (List PyData)
  | [], acc, s => if isOwnL j all s then .ok acc s else .stuck
  | d :: ds, acc, s => if isOwnL j all s then if noOwn vs s.d then match b d { s with d := blank vs s.d } with
      | none => .stuck
      | some s1 => (nerr (ft s1)).bind fun t s2 => if t then (nerr (bnd fe fEsc s2)).bind fun r s3 => match r with
            | .val x => loopCO j all b ft fe vs ds (acc ++ [x]) { s3 with d := putBack vs s.d s3.d }
            | _ => .stuck
          else loopCO j all b ft fe vs ds acc { s2 with d := putBack vs s.d s2.d }
    else .stuck else .stuck
def kNewL : List PyData → M R := fun acc s => .ok (.new acc) s
def kLcO (s : DSt) (j : Nat) (b : Bd) (ft : M Bool) (fe : M R) (vs : List Nat) (ds : List PyData) : Res R := (if leS ds.length then loopCO j ds b ft fe vs ds [] s else .stuck).bind kNewL
def fLcO (j : Nat) (b : Bd) (ft : M Bool) (fe : M R) (vs : List Nat) : M R := fun s => if j ∈ vs then .stuck else match s.d[j]? with
  | some (.own ds) => kLcO s j b ft fe vs ds
  | _ => .stuck
section
variable {X : Cx} {cl : String → Addr} {W : WX} {tg iter : Expr} {pos : Pos}
theorem itO {K : PySem.W.Frag} {j : Nat} {a : Addr} {ds : List PyData} {G' H' : Hp} {s' : DSt} {σ' : L2.St} (S : SA K G' s' σ' H') (e : s'.d[j]? = some (.own ds)) (e2 : σ'[j]? = some (some (.ref a))) (i : Nat) :
    (∀ d, ds[i]? = some d → (Itl K a).go i H' ∧ ∀ x H2, (Itl K a).yld i H' x H2 → ∃ G2, Stp G' s' σ' H' G2 s' σ' H2 ∧ SA K G2 s' σ' H2 ∧ Rp K G2 x d) ∧ (ds.length ≤ i → (Itl K a).stop i H') := by
  obtain ⟨b, xs, e3, hH, hd⟩ := S.slot j _ e
  rw [e2] at e3
  cases e3
  refine ⟨fun d e => ?_, fun hl => ⟨xs, .of hH, by rw [dps_len hd]; exact hl⟩⟩
  have hi : i < xs.length := by rw [dps_len hd]; exact (List.getElem?_eq_some_iff.mp e).1
  refine ⟨⟨xs, xs[i], .of hH, by simp [hi]⟩, fun x H2 ⟨e2, y⟩ => ?_⟩
  subst e2
  obtain ⟨d', e', r⟩ := dps_get hd (y xs (.of hH))
  rw [e] at e'
  cases e'
  exact ⟨G', Stp.refl, S, r⟩
theorem lcO_reads {K : PySem.W.Frag} {gg : TG} {bd : Bd} {js vs : List Nat} {ft : M Bool} {fe : M R} {j : Nat} (ho : GOk K gg bd js) (hj : ∀ j ∈ js, j ∈ vs) {σ : L2.St} {H : Hp} {Q : VK} (q : tD K cl W (fLcO j bd ft fe vs) σ H Q) :
    tLc (iSeq K (tVar j)) gg (tT K cl (fun _ _ _ _ => False) ft) (tD K cl (fun _ _ _ _ => False) fe) vs σ H Q := by
  obtain ⟨G1, s1, S1, q⟩ := q
  unfold fLcO at q
  by_cases hjv : j ∈ vs
  · rw [if_pos hjv] at q; exact q.elim
  rw [if_neg hjv] at q
  split at q
  rotate_left
  · exact q.elim
  rename_i ds eo
  obtain ⟨a, xs, ea, ha, hd⟩ := S1.slot j _ eo
  have ea' : σ[j]? = some (some (.ref a)) := by
    cases z : σ[j]? with
    | none => rw [z] at ea; cases ea
    | some o => rw [z] at ea; simp at ea; rw [ea]
  refine ⟨.ref a, ea', .inl ⟨a, rfl, ⟨xs, .of ha⟩, fun D hD => ?_⟩⟩
  unfold kLcO at q
  have k := out_bind q
  by_cases hz : leS ds.length
  rotate_left
  · rw [if_neg hz] at k; exact k.elim
  rw [if_pos hz] at k
  have hz : ds.length ≤ sizeLine := hz
  obtain ⟨stD, SD, rrD⟩ := new_list (ds := []) S1 hD .nil (fun _ h => h)
  obtain ⟨aD, xD, eD, _, _, gD, _, nD⟩ := rrD
  cases eD
  refine ⟨fun i m H2 => ∃ G2 s2 acc accv, SA K G2 s2 σ H2 ∧ Stp G1 s1 σ H G2 s2 σ H2 ∧ H2 D = some (.lst accv) ∧ RpAll K G2 accv acc ∧ G2 D = none ∧ ¬ Own s2 σ D ∧ acc.length ≤ i ∧ m = ds.length - i ∧ i ≤ ds.length ∧
      Out K cl W G1 s1 σ H (loopCO j ds bd ft fe vs (ds.drop i) acc s2) _, ⟨ds.length, G1, s1, [], [], SD, stD, upd_same, .nil, gD, nD, Nat.le_refl _, by simp, Nat.zero_le _, by simpa using k⟩, ?_⟩
  rintro i m H2 ⟨G2, s2, acc, accv, S2, st2, hD2, hacc, gD2, nD2, hla, rfl, hi, k2⟩
  by_cases hl : i < ds.length
  · rw [List.drop_eq_getElem_cons hl] at k2
    unfold loopCO at k2
    by_cases hown : isOwnL j ds s2
    rotate_left
    · rw [if_neg hown] at k2; exact k2.elim
    rw [if_pos hown] at k2
    have hown : s2.d[j]? = some (.own ds) := hown
    obtain ⟨j1, j2⟩ := itO S2 hown ea' i
    obtain ⟨go, yl⟩ := j1 ds[i] (List.getElem?_eq_getElem hl)
    refine .inr ⟨go, fun H3 => ∃ G3 s3 acc accv, SA K G3 s3 σ H3 ∧ Stp G1 s1 σ H G3 s3 σ H3 ∧ H3 D = some (.lst accv) ∧ RpAll K G3 accv acc ∧ G3 D = none ∧ ¬ Own s3 σ D ∧ acc.length ≤ i + 1 ∧
      Out K cl W G1 s1 σ H (loopCO j ds bd ft fe vs (ds.drop (i + 1)) acc s3) _, fun H3 ⟨G3, s3, acc, accv, a1, a2, a3, a4, a5, a6, a7, a8⟩ => ⟨ds.length - (i + 1), by omega, G3, s3, acc, accv, a1, a2, a3, a4, a5, a6, a7, rfl, hl, a8⟩, fun x H3 y => ?_⟩
    by_cases hn : noOwn vs s2.d = true
    rotate_left
    · rw [if_neg hn] at k2; exact k2.elim
    rw [if_pos hn] at k2
    obtain ⟨stB, SB⟩ := sa_blank vs S2 hn
    have hob : ({ s2 with d := blank vs s2.d } : DSt).d[j]? = some (.own ds) := by
      show (blank vs s2.d)[j]? = _
      rw [blank_get, if_neg hjv]; exact hown
    have eab : (wipe σ vs)[j]? = some (some (.ref a)) := by rw [wipe_get, if_neg hjv]; exact ea'
    obtain ⟨j3, _⟩ := itO SB hob eab i
    obtain ⟨_, yl⟩ := j3 ds[i] (List.getElem?_eq_getElem hl)
    obtain ⟨G3, st3, S3, rp⟩ := yl x H3 y
    cases eb : bd ds[i] { s2 with d := blank vs s2.d } with
    | none => rw [eb] at k2; exact k2.elim
    | some s4 =>
      rw [eb] at k2
      refine ho x ds[i] G3 _ (wipe σ vs) H3 s4 _ S3 rp eb fun σ4 l4 n4 m4 w4 st4 S4 => ?_
      have hw : wipe σ4 vs = wipe σ vs := (wipe_same l4 fun i hi => n4 i fun z => hi (hj i z)).trans (wipe_wipe σ vs)
      refine ⟨hw, G3, s4, S4, ?_⟩
      have stA := (stB.trans st3).trans st4
      have fin : ∀ {G5 : Hp} {s5 : DSt} {H5 : Hp}, Stp G2 s2 σ H2 G5 s5 σ4 H5 → SA K G5 s5 σ4 H5 → SA K G5 { s5 with d := putBack vs s2.d s5.d } σ H5 ∧ Stp G1 s1 σ H G5 { s5 with d := putBack vs s2.d s5.d } σ H5 ∧ H5 D = some (.lst accv) ∧ G5 D = none ∧ ¬ Own { s5 with d := putBack vs s2.d s5.d } σ D := by
        intro G5 s5 H5 st5 S5
        obtain ⟨b1, b2⟩ := sa_back S2 hn S5 st5.ex hw
        obtain ⟨c1, c2⟩ := st5.keep D _ hD2 nD2
        have st6 : Stp G2 s2 σ H2 G5 { s5 with d := putBack vs s2.d s5.d } σ H5 := ⟨st5.ex, st5.keep, fun a z => st5.own a (b2 a z), st5.dom, st5.pw⟩
        exact ⟨b1, st2.trans st6, c1, c2.trans gD2, fun z => (st6.own D z).elim nD2 fun z => by rw [hD2] at z; cases z⟩
      have k2 : Out K cl W G1 s1 σ H ((nerr (ft s4)).bind _) _ := k2
      cases et : ft s4 with
      | err x s5 => rw [et] at k2; exact k2.elim
      | stuck => rw [et] at k2; exact k2.elim
      | ok t s5 =>
        rw [et] at k2
        intro G5 H5 st5 S5
        have st25 := stA.trans st5
        cases t with
        | false =>
          obtain ⟨b1, b2, b3, b4, b5⟩ := fin st25 S5
          exact ⟨G5, _, acc, accv, b1, b2, b3, dps_mono st25.ex _ _ hacc, b4, b5, Nat.le_succ_of_le hla, k2⟩
        | true =>
          have k2 : Out K cl W G1 s1 σ H ((nerr (bnd fe fEsc s5)).bind _) _ := k2
          refine ⟨G5, s5, S5, ?_⟩
          cases ef : fe s5 with
          | err x s6 => rw [bnd_app, ef] at k2; exact k2.elim
          | stuck => rw [bnd_app, ef] at k2; exact k2.elim
          | ok r s6 =>
            rw [bnd_app, ef] at k2
            intro G6 H6 st6 S6 v rr
            have k2 : Out K cl W G1 s1 σ H ((nerr (fEsc r s6)).bind _) _ := k2
            unfold fEsc at k2
            cases ee : esc r s6 with
            | none => rw [ee] at k2; exact k2.elim
            | some p =>
              obtain ⟨r2, s7⟩ := p
              rw [ee] at k2
              obtain ⟨G7, st7, S7, ex7, ar⟩ := esc_ok S6 st6 rr ee
              have st27 := st25.trans st7
              obtain ⟨b1, b2, b3, b4, b5⟩ := fin st27 S7
              cases r2 with
              | raw u => exact k2.elim
              | ob o => exact k2.elim
              | new u => exact k2.elim
              | slot u => exact k2.elim
              | val d =>
                have hacc7 := dps_mono st27.ex _ _ hacc
                refine ⟨accv, b3, ?_, G7, _, acc ++ [d], accv ++ [v], sa_write b1 b4 b5, ⟨b2.ex, fun a o h1 h2 => ?_, b2.own, fun a h1 => ?_, b2.pw⟩, upd_same, dps_app hacc7 (.cons ar .nil), b4, b5, by simp; omega, k2⟩
                · rw [dps_len hacc]
                  omega
                · have ne : a ≠ D := fun z => by subst z; rw [hD] at h1; cases h1
                  rw [upd_ne ne]
                  exact b2.keep a o h1 h2
                · by_cases ne : a = D
                  · subst ne; rw [upd_same]; simp
                  · rw [upd_ne ne]; exact b2.dom a h1
  · have e : i = ds.length := by omega
    subst e
    rw [List.drop_length] at k2
    unfold loopCO at k2
    by_cases hown : isOwnL j ds s2
    rotate_left
    · rw [if_neg hown] at k2; exact k2.elim
    rw [if_pos hown] at k2
    refine .inl ⟨(itO S2 hown ea' ds.length).2 (Nat.le_refl _), ?_⟩
    have k3 := k2 G2 H2 st2 S2
    have k4 := k3 G2 H2 Stp.refl S2 (.ref D) ⟨D, accv, rfl, hD2, hacc, gD2, hD, nD2⟩
    exact k4
theorem d_lcO {elt : Expr} {ifs : List Expr} {scope : Scope} {own : List (Str × Nat)} {gg : TG} {bd : Bd} {js : List Nat} {ft : M Bool} {fe : M R} {j : Nat} (hc : X.calm = true) (hN : X.N.Nodup) (hi : PE X iter (tVar j)) (ok : BlkOk X.N X.env.scope scope own) (ho : GOk X.K gg bd js) (hj : ∀ j ∈ js, j ∈ own.map (·.2))
    (hg : ∀ (s : Shared) (H : Hp) (C : Addr) (cl : List (Str × Addr)) (fp : List Addr), PG (X.blk s H scope (compEnvC scope cl C X.env) fp) tg gg) (ht : ∀ (s : Shared) (H : Hp) (C : Addr) (clo : List (Str × Addr)) (fp : List Addr), PTs (X.blk s H scope (compEnvC scope clo C X.env) fp) ifs (tT X.K cl W0 ft))
    (he : ∀ (s : Shared) (H : Hp) (C : Addr) (clo : List (Str × Addr)) (fp : List Addr), DE (X.blk s H scope (compEnvC scope clo C X.env) fp) cl W0 elt fe) (hs : ∀ x, foldedSetIterable iter X.env x = pure x := by intro _; rfl) :
    DE X cl W (.ListComp elt [⟨tg, iter, ifs, 0⟩] scope pos) (fLcO j bd ft fe (own.map (·.2))) := pe_imp (pe_lc hc hN (pi_seq hi) ok hg ht he hs) fun σ H Q q => lcO_reads ho hj q
theorem s_setLcO {i : Nat} {y : Str} {py : Pos} {elt : Expr} {ifs : List Expr} {scope : Scope} {own : List (Str × Nat)} {spos : Pos} {gg : TG} {bd : Bd} {js : List Nat} {ft : M Bool} {fe : M R} {j : Nat} (hc : X.calm = true) (hN : X.N.Nodup) (hy : X.N[i]? = some y) (hyl : X.env.scope.names.lookup y = some .local)
    (hsw : swapsWith (.ListComp elt [⟨tg, iter, ifs, 0⟩] scope pos) (some (.Name y py)) spos.line X.env = pure true) (hi : PE X iter (tVar j)) (ok : BlkOk X.N X.env.scope scope own) (ho : GOk X.K gg bd js) (hj : ∀ j ∈ js, j ∈ own.map (·.2))
    (hg : ∀ (s : Shared) (H : Hp) (C : Addr) (cl : List (Str × Addr)) (fp : List Addr), PG (X.blk s H scope (compEnvC scope cl C X.env) fp) tg gg) (ht : ∀ (s : Shared) (H : Hp) (C : Addr) (clo : List (Str × Addr)) (fp : List Addr), PTs (X.blk s H scope (compEnvC scope clo C X.env) fp) ifs (tT X.K cl W0 ft))
    (he : ∀ (s : Shared) (H : Hp) (C : Addr) (clo : List (Str × Addr)) (fp : List Addr), DE (X.blk s H scope (compEnvC scope clo C X.env) fp) cl W0 elt fe) (hs : ∀ x, foldedSetIterable iter X.env x = pure x := by intro _; rfl) :
    DS X cl W (.Assign [.Name y py] (.ListComp elt [⟨tg, iter, ifs, 0⟩] scope pos) spos) (fSet i (fLcO j bd ft fe (own.map (·.2)))) := ps_imp (ps_setLc hc hN hy hyl hsw (pi_seq hi) ok hg ht he hs) fun D σ H q => by
  have q' := set_reads q
  exact lcO_reads ho hj q'
end
theorem loopCO_gen {α : Type} {j : Nat} {all : List PyData} {b : Bd} {ft : M Bool} {fe : M R} {vs : List Nat} {s : DSt} {f : α → PyData} (sb : α → DSt) (keep : α → Bool) (g : α → PyData) (hj : s.d[j]? = some (.own all)) (hn : noOwn vs s.d = true) : ∀ (l : List α) (acc : List PyData),
    (∀ a ∈ l, b (f a) ⟨blank vs s.d, s.w⟩ = some (sb a)) → (∀ a ∈ l, (⟨putBack vs s.d (sb a).d, (sb a).w⟩ : DSt) = s) → (∀ a ∈ l, ft (sb a) = .ok (keep a) (sb a)) → (∀ a ∈ l, keep a = true → (fe (sb a)).bind fEsc = .ok (.val (g a)) (sb a)) →
    loopCO j all b ft fe vs (l.map f) acc s = .ok (acc ++ (l.filter keep).map g) s
  | [], acc, _, _, _, _ => by
    show (if isOwnL j all s then Res.ok acc s else .stuck) = _
    rw [if_pos (show isOwnL j all s from hj)]; simp
  | a :: l, acc, h1, h2, h3, h4 => by
    have ih := fun acc => loopCO_gen (j := j) (all := all) sb keep g hj hn l acc (fun d hd => h1 d (List.mem_cons_of_mem _ hd)) (fun d hd => h2 d (List.mem_cons_of_mem _ hd)) (fun d hd => h3 d (List.mem_cons_of_mem _ hd)) (fun d hd => h4 d (List.mem_cons_of_mem _ hd))
    have e1 := h1 a List.mem_cons_self
    have e2 := h2 a List.mem_cons_self
    have e3 := h3 a List.mem_cons_self
    rw [List.map_cons]
    unfold loopCO
    rw [if_pos (show isOwnL j all s from hj), if_pos hn, e1]
    dsimp only
    rw [e3]
    cases k : keep a with
    | false =>
      show loopCO j all b ft fe vs (l.map f) acc _ = _
      rw [e2, ih]
      simp [k]
    | true =>
      have e4 := h4 a List.mem_cons_self k
      show (nerr (bnd fe fEsc (sb a))).bind _ = _
      rw [bnd_app, e4]
      show loopCO j all b ft fe vs (l.map f) (acc ++ [g a]) _ = _
      rw [e2, ih]
      simp [k]
theorem lcO_gen {α : Type} {j : Nat} {b : Bd} {ft : M Bool} {fe : M R} {vs : List Nat} {s : DSt} {f : α → PyData} {l : List α} (sb : α → DSt) (keep : α → Bool) (g : α → PyData) (hj : s.d[j]? = some (.own (l.map f))) (hjv : j ∉ vs) (hl : l.length ≤ 100000) (hn : noOwn vs s.d = true)
    (h1 : ∀ a ∈ l, b (f a) ⟨blank vs s.d, s.w⟩ = some (sb a)) (h2 : ∀ a ∈ l, (⟨putBack vs s.d (sb a).d, (sb a).w⟩ : DSt) = s) (h3 : ∀ a ∈ l, ft (sb a) = .ok (keep a) (sb a)) (h4 : ∀ a ∈ l, keep a = true → (fe (sb a)).bind fEsc = .ok (.val (g a)) (sb a)) :
    fLcO j b ft fe vs s = .ok (.new ((l.filter keep).map g)) s := by
  have hl2 : leS (l.map f).length := by rw [List.length_map]; exact size_le hl
  unfold fLcO
  rw [if_neg hjv, hj]
  show kLcO s j b ft fe vs (l.map f) = _
  unfold kLcO
  rw [if_pos hl2, loopCO_gen sb keep g hj hn l [] h1 h2 h3 h4]
  simp [kNewL]
/-- a while loop that may answer -/
theorem whileF_any {c : M Bool} {p : DSt → Flow} (Inv : DSt → Prop) (Post : R → DSt → Prop) (m : DSt → Nat) (n : Nat) {s : DSt} (h0 : Inv s) (hn : m s < n)
    (step : ∀ s, Inv s → (∃ s1, c s = .ok true s1 ∧ ((∃ s2, p s1 = .next s2 ∧ Inv s2 ∧ m s2 < m s) ∨ ∃ r s2, p s1 = .ret r s2 ∧ Post r s2)) ∨ (c s = .ok false s)) : (∃ s', whileF c p n s = .next s' ∧ Inv s' ∧ c s' = .ok false s') ∨ ∃ r s', whileF c p n s = .ret r s' ∧ Post r s' := by
  induction n generalizing s with
  | zero => omega
  | succ n ih =>
    rcases step s h0 with ⟨s1, e1, ⟨s2, e2, h2, hm⟩ | ⟨r, s2, e2, h2⟩⟩ | e
    · have := ih h2 (by omega)
      unfold whileF
      simp only [e1, x_onRes_ok, if_true, e2]
      exact this
    · refine .inr ⟨r, s2, ?_, h2⟩
      unfold whileF
      simp only [e1, x_onRes_ok, if_true, e2]
    · refine .inl ⟨s, ?_, h0, e⟩
      unfold whileF
      simp [e]
end DL

/-! DL21: sets of ints made of lists: sorted(set(e)) -/
noncomputable section
namespace DL
open PySem L2 PyProof.Rows
open Evl (Ex)
section
variable {P : Program} {w : World} {A : Around} {E : Value → Shared → Prop} {s : Shared}
def emptySet (w : World) : Obj := { cls := .type "set", dict := none, data := .set #[] 0 (.fresh 0 0 (!w.params.followText "set-order")) }
def SetDone (w : World) (h : Heap) (a : Addr) (ns : List Int) (h' : Heap) : Prop := ∃ c, SetR w h' a (fun j => decide (j ∈ ns)) c ∧ c ≤ ns.length ∧ ∀ b o, h.get? b = some o → h'.get? b = some o
def Filled (s : Shared) (w : World) (ns : List Int) (r : Value) (s2 : Shared) : Prop := r = .none ∧ ∃ h' tk, s2 = { s with heap := h', toks := tk } ∧ SetDone w s.heap s.heap.objs.size ns h'
theorem set_of_list {l : Addr} {its : Array Value} (ns : List Int) {Q : Value → Shared → Prop} (quiet : A.handled = none) (hl : s.heap.IsList l its) (hi : IntsAre its.toList ns) (hb : ns.length + 1 < scanBound)
    (goal : ∀ (h' : Heap) (tk : Nat), SetDone w s.heap s.heap.objs.size ns h' → Q (.ref s.heap.objs.size) { s with heap := h', toks := tk }) :
    wpAny (model P w) A (call (.type "set") [.ref l]) Q E s := by
  have hsz : its.size = ns.length := (Array.length_toList (xs := its)).symm.trans (IntsAre.length hi)
  have c1 := F.called_set.made
  have c2 := F.called_set.sub
  have c3 := F.called_set.notType
  have c4 := F.called_set.canCreate
  have c5 := F.typeCall_set_1 (.ref l)
  obtain ⟨c6, c7, c8⟩ := F.called_set.mro
  refine wpAny_call (codeAny_of_tree ?_)
  show wpAny _ _ (callAny (.type "set") _) _ _ _
  refine wpAny_pure ⟨Code.quiet_builtin _ (by decide +kernel), codeAny_builtin F.entry_type_call ?_⟩
  rw [Around.under_plain (weight_type_call_type "set" [.ref l] []) rfl]
  repeat (any_goals (first | assumption | wp_step))
  refine codeAny_mono (code_set_led1 (.ref l) (E := E) (Q₁ := fun x z => x = .ref s.heap.objs.size ∧ z = { s with heap := s.heap.push (emptySet w) }) ⟨rfl, rfl⟩) ?_
  intro r z hz
  match r, hz with
  | .error _, hz => exact hz
  | .ok .next, hz => exact hz.elim
  | .ok .brk, hz => exact hz.elim
  | .ok .cont, hz => exact hz.elim
  | .ok (.ret x), ⟨e1, e2⟩ =>
    subst e1 e2
    have g0 : (s.heap.push (emptySet w)).get? s.heap.objs.size = some (emptySet w) := Heap.get?_push_size _ rfl
    have ty : Shared.TypeIs { s with heap := s.heap.push (emptySet w) } (.ref s.heap.objs.size) "set" := ⟨_, g0, rfl⟩
    have d1 := F.called_set.init.lookup
    have d2 := F.called_set.init.bind (.ref s.heap.objs.size)
    repeat (any_goals (first | assumption | wp_step))
    refine codeAny_mono (codeAny_call_builtin (R := wants (Filled s w ns) E) F.called_set.init.plain F.entry_set_init (check_set_init_1 ty ?_)) ?_
    · obtain ⟨⟨k1, k2, k3, k4⟩, gl, cl, nl, dl⟩ := hl
      simp only at cl dl
      subst cl dl
      have lt : l < s.heap.objs.size := Heap.lt_size gl
      have g1 : (s.heap.push (emptySet w)).get? l = some { cls := .type "list", dict := k2, data := .seq its nl, slots := k4 } := Heap.get?_push_of_some _ gl
      have l1 : (s.heap.push (emptySet w)).IsList l its := ⟨_, g1, rfl, nl, rfl⟩
      have z1 : (s.heap.push (emptySet w)).objs.size = s.heap.objs.size + 1 := Heap.size_push ..
      have n1 := F.sub_list_set
      have n2 := F.sub_list_frozenset
      have n3 : (Value.type "list" == Value.type "dict") = false := by decide
      have q3 : A.in1.in1.in1.handled = none := by simp [quiet]
      unfold Builtin.«set.__init__» noKeywords Builtin.Frozenset.updateFrom
      generalize eI : pyIter = I
      wp_walk
      subst eI
      refine wpAny_pyIter_list l1 (wpAny_bind (wpAny_runValue ?_))
      have nI : l ≠ (s.heap.push (emptySet w)).objs.size := by rw [z1]; exact Nat.ne_of_lt (Nat.lt_succ_of_lt lt)
      have nS : s.heap.objs.size ∉ [(s.heap.push (emptySet w)).objs.size, l] := by
        simp only [List.mem_cons, List.not_mem_nil, or_false, not_or, z1]
        exact ⟨Nat.ne_of_lt (Nat.lt_succ_self _), Nat.ne_of_gt lt⟩
      have vals : ∀ (i : Nat) (v : Value), its[i]? = some v → ∃ k t, ns[i]? = some k ∧ v = .int k t := by
        intro i v hv
        have hi2 : i < ns.length := by rw [← hsz]; exact (Array.getElem?_eq_some_iff.mp hv).1
        obtain ⟨t, e⟩ := PyProof.Rows.IntsAre.int_at hi i v (by rw [Array.getElem?_toList]; exact hv)
        exact ⟨ns[i], t, List.getElem?_eq_getElem hi2, by rw [e, List.getD_eq_getElem?_getD, List.getElem?_eq_getElem hi2] <;> rfl⟩
      have gS : ((s.heap.push (emptySet w)).push { cls := .type "list_iterator", data := .fields #[.ref l, .int 0 0] }).get? s.heap.objs.size = some (emptySet w) := Heap.get?_push_of_some _ g0
      refine set_update_ints ((Walks.list q3 _ l nI its).toS) s.heap.objs.size nS ns hsz hb vals (its.size - 0) 0 _ (by omega) (Nat.zero_le _) ⟨⟨_, Heap.get?_push_size _ rfl, rfl, rfl⟩, l1.push _⟩ ⟨0, Nat.le_refl 0, setR_new_at gS⟩ ?_
      rintro ⟨h', g2, d2, tk2, os2⟩ c m hc R
      obtain rfl : g2 = s.gens := m.gens
      obtain rfl : d2 = s.drawn := m.drawn
      obtain rfl : os2 = s.os := m.os
      show wpAny _ _ _ _ _ _
      refine wpAny_pure ?_
      show wpAny _ _ (PySem.ret Value.none) _ _ _
      refine wpAny_pure ⟨rfl, h', tk2, rfl, c, R, by omega, fun b o e => ?_⟩
      have lb := Heap.lt_size e
      refine m.heap b o ?_ (Heap.get?_push_of_some _ (Heap.get?_push_of_some _ e))
      simp only [List.mem_cons, List.not_mem_nil, or_false, not_or, z1]
      exact ⟨Nat.ne_of_lt lb, Nat.ne_of_lt (Nat.lt_succ_of_lt lb)⟩
    · intro r2 z2 h2
      match r2, h2 with
      | .error _, h2 => exact h2
      | .ok .next, h2 => exact h2.elim
      | .ok .brk, h2 => exact h2.elim
      | .ok .cont, h2 => exact h2.elim
      | .ok (.ret _), ⟨e3, h', tk, e4, done⟩ =>
        subst e3 e4
        repeat (any_goals (first | assumption | wp_step))
        exact goal _ _ done
end
/-! ### the rising list of what is in it -/
def ddI : List Int → List Int
  | [] => []
  | a :: l => if a ∈ l then ddI l else a :: ddI l
theorem mem_dd {x : Int} : ∀ {l : List Int}, x ∈ ddI l ↔ x ∈ l
  | [] => Iff.rfl
  | a :: l => by
    unfold ddI
    split
    · rename_i h
      rw [mem_dd, List.mem_cons]
      exact ⟨.inr, fun z => z.elim (fun e => e ▸ h) id⟩
    · rw [List.mem_cons, List.mem_cons, mem_dd]
theorem nodup_dd : ∀ {l : List Int}, (ddI l).Nodup
  | [] => List.nodup_nil
  | a :: l => by
    unfold ddI
    split
    · exact nodup_dd
    · rename_i h
      exact List.nodup_cons.mpr ⟨fun z => h (mem_dd.mp z), nodup_dd⟩
def setS (ns : List Int) : List Int := sortI (ddI ns)
theorem mem_setS {x : Int} {ns : List Int} : x ∈ setS ns ↔ x ∈ ns := (sortI_perm _).mem_iff.trans mem_dd
theorem nodup_setS {ns : List Int} : (setS ns).Nodup := (sortI_perm _).nodup_iff.mpr nodup_dd
theorem setS_eq {ns ms : List Int} (h : ms.Pairwise (· < ·)) (hm : ∀ k, k ∈ ms ↔ k ∈ ns) : ms = setS ns := by
  have nd : ms.Nodup := h.imp fun z => Int.ne_of_lt z
  have p : ms.Perm (ddI ns) := (List.perm_ext_iff_of_nodup nd nodup_dd).mpr fun k => (hm k).trans mem_dd.symm
  exact sortI_eq p (h.imp fun z => Int.le_of_lt z)
def kSortSet (r : R) (s : DSt) : Res R := match look r s with
  | some (.list ds) => (match intsD ds with
    | some ns => if ns.length ≤ 60 then .ok (.new ((setS ns).map .int)) s else .stuck
    | none => .stuck)
  | _ => .stuck
@[simp] theorem y_kSortSet (r : R) (s : DSt) : kSortSet r s = (match look r s with | some (.list ds) => (match intsD ds with | some ns => if ns.length ≤ 60 then .ok (.new ((setS ns).map .int)) s else .stuck | none => .stuck) | _ => .stuck) := Eq.trans rfl rfl
def fSortSet (f : M R) : M R := bnd f kSortSet
@[simp] theorem x_sortSet {f : M R} {s : DSt} : fSortSet f s = (f s).bind kSortSet := Eq.trans rfl rfl
section
variable {X : Cx} {cl : String → Addr} {W : WX} {e a b c : Expr} {f g : M R} {pos : Pos}
def tSetL (X : Cx) (te : TE) : TE := fun σ H Q => te σ H fun v H1 => ∃ (l : Addr) (ns : List Int), v = .ref l ∧ SqL X.K H1 l (ns.map V.int) ∧ ns.length ≤ 60 ∧ ∀ p n, H1 p = none → n ≤ ns.length → Q (.ref p) (upd H1 p (SetO X.w p (fun j => decide (j ∈ ns)) n))
theorem pe_setL {te : TE} {p2 q : Pos} (hc : X.calm = true) (hg : Gl X "set") (hm : X.mg "set" = none) (ha : PE X a te) (na : starEach [a] X.env = (false, eval a X.env) :: starEach [] X.env := by rfl) : PE X (.Call (.Name "set" p2) [a] [] q) (tSetL X te) := by
  refine ⟨fun pins s σ H Q I h => Call_ (ld_blt I hg hm boot_set ?_)⟩
  refine PyProof.Rows.callWith_type1 (PyProof.Rows.args_cons (thn (ha.run pins s σ H _ I h) fun v s1 ⟨x, H1, I1, r1, q1⟩ => PyProof.Rows.args_nil ?_) na) na rfl
  obtain ⟨l, ns, rfl, hq, hl, q1⟩ := q1
  cases r1
  obtain ⟨its, r, pl, hz⟩ := I1.list hq
  refine set_of_list ns (I1.ok.hd hc) pl.isList (by simpa using intsAre_vals' r) (by unfold scanBound; omega) fun h' tk ⟨n, R, hn, hk⟩ => ?_
  exact ⟨.ref _, _, I1.laid (t' := tk) hk (Nat.le_refl _) (setO_new R), rfl, q1 _ n (I1.hok.fresh (Nat.le_refl _)) hn⟩
theorem d_sortSet {p p2 q pos : Pos} (hc : X.calm = true) (hg : Gl X "sorted") (hm : X.mg "sorted" = none) (hg2 : Gl X "set") (hm2 : X.mg "set" = none) (ha : DE X cl W a f)
    (na : starEach [a] X.env = (false, eval a X.env) :: starEach [] X.env := by rfl) (na2 : starEach [.Call (.Name "set" p2) [a] [] q] X.env = (false, eval (.Call (.Name "set" p2) [a] [] q) X.env) :: starEach [] X.env := by rfl) :
    DE X cl W (.Call (.Name "sorted" p) [.Call (.Name "set" p2) [a] [] q] [] pos) (fSortSet f) := by
  refine pe_imp (pe_callB (cr_sortedSet hc) hg hm (by decide +kernel) (pa_cons (pe_setL hc hg2 hm2 ha na) pa_nil na2) (by decide) (by decide) na2 rfl) fun σ H Q ⟨G, s, S, q⟩ => ?_
  refine ⟨G, s, S, out_mono (out_bind q) fun x G1 s1 H1 st1 S1 k v rr => ?_⟩
  unfold kSortSet at k
  split at k
  · rename_i ds e1
    split at k
    · rename_i ns en
      split at k
      · rename_i hl
        obtain ⟨l, xs, rfl, hp, hd⟩ := dq_lst (look_q S1 rr e1)
        have ex := ints_rp hd en
        subst ex
        refine ⟨l, ns, rfl, .of hp, hl, fun p n hn hle => ?_⟩
        obtain ⟨st2, S2⟩ := new_known (SetO X.w p (fun j => decide (j ∈ ns)) n) S1 hn
        refine ⟨p, _, n, rfl, upd_same, by omega, fun ms p2 h1 h2 h3 h4 => ?_⟩
        have em : ms = setS ns := setS_eq h1 fun k => (h2 k).trans (by simp)
        subst em
        obtain ⟨st3, S3, r3⟩ := new_list (H0 := H) S2 h4 (rp_ints (setS ns)) (st1.trans st2).dom
        exact k _ _ (st2.trans st3) S3 _ r3
      · exact k.elim
    · exact k.elim
  · exact k.elim
end
end DL

/-! DL45: a loop each turn of which begins with a list of numbers that is then drawn from -/
noncomputable section
namespace DL
open PySem L2 PyProof.Rows
open Evl (Ex)
def kScCut (k : Nat) (x : R) (s : DSt) : Res R := match x with
  | .ob (.scr ns) => .ok (.new ((ns.take k).map .int)) s
  | _ => .stuck
def fScCut (k : Nat) (f : M R) : M R := bnd f (kScCut k)
@[simp] theorem x_scCut {k : Nat} {f : M R} {s : DSt} : fScCut k f s = (f s).bind (kScCut k) := Eq.trans rfl rfl
@[simp] theorem y_kScCut {k : Nat} {ns : List Int} {s : DSt} : kScCut k (.ob (.scr ns)) s = .ok (.new ((ns.take k).map .int)) s := Eq.trans rfl rfl
section
variable {X : Cx} {cl : String → Addr} {W : WX} {a : Expr} {f : M R} {pos : Pos}
theorem d_scCut {k j : Nat} {p1 p2 : Pos} (ha : DE X cl W a f) : DE X cl W (.Subscript a (.Slice none (some (.Constant (.int (k : Int)) j p1)) none p2) pos) (fScCut k f) := by
  refine pe_imp (pe_slice sl_list ha po_none (po_some pe_int)) fun σ H Q ⟨G, s, S, q⟩ => ?_
  refine ⟨G, s, S, out_mono (out_bind q) fun r G1 s1 H1 st1 S1 k1 v rr => ?_⟩
  unfold kScCut at k1
  split at k1
  · rename_i ns
    obtain ⟨p, rfl, hl⟩ := rr
    refine ⟨k, rfl, p, _, rfl, Evl.ex_l S1.gh hl, fun p0 hp0 => ?_⟩
    have ec : cutV (ns.map V.int) none (some (k : Int)) = (ns.take k).map V.int := by
      unfold cutV
      have e1 : HT.sIx (ns.map V.int).length 0 none = 0 := rfl
      rw [e1, List.map_take]
      have e2 : HT.sIx (ns.map V.int).length (ns.map V.int).length (some (k : Int)) = min k (ns.map V.int).length := by
        unfold HT.sIx
        simp
        try omega
      rw [e2]
      simp only [List.drop_zero, Nat.sub_zero]
      rw [List.take_eq_take_iff]
      omega
    rw [ec]
    obtain ⟨st2, S2, r2⟩ := new_list (H0 := H) S1 hp0 (rp_ints (ns.take k)) st1.dom
    exact k1 G1 _ st2 S2 _ r2
  · exact k1.elim
end
/-! ### -/
def clearZ : List Sl → Prop
  | [] => True
  | .own _ :: _ => False
  | _ :: r => clearZ r
def keepZ : List Sl → List Sl → Prop
  | [], [] => True
  | x :: a, y :: b => (x = .no ∨ y = x) ∧ keepZ a b
  | _, _ => False
theorem clearZ_get : ∀ {d : List Sl} {i : Nat} {ds : List PyData}, clearZ d → d[i]? ≠ some (.own ds)
  | [], _, _, _, e => by simp at e
  | x :: r, 0, ds, h, e => by
    simp at e
    subst e
    exact h
  | x :: r, i + 1, ds, h, e => by
    have h' : clearZ r := by cases x <;> first | exact h | exact h.elim
    exact clearZ_get h' (by simpa using e)
theorem keepZ_get : ∀ {a b : List Sl} {i : Nat} {x : Sl}, keepZ a b → a[i]? = some x → x = .no ∨ b[i]? = some x
  | [], _, i, x, _, e => by simp at e
  | _ :: _, [], _, _, h, _ => h.elim
  | u :: a, v :: b, 0, x, h, e => by
    simp at e
    subst e
    rcases h.1 with q | q
    · exact .inl q
    · exact .inr (by simp [q])
  | u :: a, v :: b, i + 1, x, h, e => by
    have := keepZ_get (i := i) h.2 (by simpa using e)
    simpa using this
theorem keepZ_len : ∀ {a b : List Sl}, keepZ a b → b.length = a.length
  | [], [], _ => rfl
  | [], _ :: _, h => h.elim
  | _ :: _, [], h => h.elim
  | _ :: a, _ :: b, h => by simp [keepZ_len h.2]
def goodW (b : Bd) (k : Nat) (f : M R) (q : DSt → Flow) (ds : List PyData) (s1 : DSt) : Prop := s1.w = none ∧ clearZ s1.d ∧ ∀ d ∈ ds, ∃ (s4 s5 : DSt) (cells : List Int), b d s1 = some s4 ∧ f s4 = .ok (.new (cells.map .int)) s5 ∧ s5.w = none ∧ k < s5.d.length ∧
  ∀ pa : Addr, ∃ s6, q ⟨s5.d.set k (.raw (.ref pa)), some (pa, pa, cells, 0)⟩ = .next s6 ∧ keepZ s1.d s6.d
instance instDecGoodW (b : Bd) (k : Nat) (f : M R) (q : DSt → Flow) (ds : List PyData) (s1 : DSt) : Decidable (goodW b k f q ds s1) := Classical.propDecidable _
def kForW (b : Bd) (k : Nat) (f : M R) (q : DSt → Flow) (ds : List PyData) (s1 : DSt) : Flow := if goodW b k f q ds s1 then .next s1 else .stuck
def fForW (fi : M (List PyData)) (b : Bd) (k : Nat) (f : M R) (q : DSt → Flow) : DSt → Flow := fun s => onRes (fi s) (kForW b k f q)
@[simp] theorem x_forW {fi : M (List PyData)} {b : Bd} {k : Nat} {f : M R} {q : DSt → Flow} {s : DSt} : fForW fi b k f q s = onRes (fi s) (kForW b k f q) := Eq.trans rfl rfl
theorem y_kForW {b : Bd} {k : Nat} {f : M R} {q : DSt → Flow} {ds : List PyData} {s : DSt} (h : goodW b k f q ds s) : kForW b k f q ds s = .next s := if_pos h
section
variable {X : Cx} {cl : String → Addr} {W : WX} {e tg iter : Expr} {f : M R} {fi : M (List PyData)} {pos pos2 : Pos} {q : DSt → Flow}
theorem noOwnZ {s : DSt} {σ : L2.St} {x : Addr} (h : clearZ s.d) (hw : s.w = none) : ¬ Own s σ x := fun z => by
  rcases z with ⟨i, ⟨ds, e⟩, _⟩ | z
  · exact clearZ_get h e
  · rw [hw] at z; exact z
theorem s_forW {rest : List Stmt} {gg : TG} {bd : Bd} {js : List Nat} {k : Nat} {y : Str} {py : Pos} (hp : PassesOwn (model X.prog X.w) X.A X.env X.xe) (hc : X.calm = true) (hi : DI X cl W tg iter fi) (hg : PG X tg gg) (ho : GOk X.K gg bd js)
    (hN : X.N.Nodup) (hk : X.N[k]? = some y) (hy : Loc X.env.scope y) (he : DE X cl W e f) (hr : DSs X cl W rest q)
    (hsw : swapsWith e (some (.Name y py)) pos2.line X.env = pure false := by rfl) (hf : X.fn y = true ∨ X.env.scope.names.lookup y = some .local := by first | exact .inl rfl | exact .inr rfl | assumption)
    (hs : ∀ x, foldedSetIterable iter X.env x = pure x := by intro _; rfl) : DS X cl W (.For tg iter (.Assign [.Name y py] e pos2 :: rest) [] pos) (fForW fi bd k f q) := by
  refine ps_imp (ps_for hp hc hi hg (pss_cons (ps_set hN hk hy he hsw hf) hr) hs) fun D σ H ⟨G, s, S, h⟩ => ⟨G, s, S, out_mono (fout_res h) fun ds G1 s1 H1 st1 S1 kk J hJ => ?_⟩
  have kk := fout_shift st1 kk
  unfold kForW at kk
  split at kk
  rotate_left
  · exact kk.elim
  rename_i hgood
  obtain ⟨w1, cz, good⟩ := hgood
  refine ⟨fun i m σ2 H2 => ∃ G2, SA X.K G2 s1 σ2 H2 ∧ Ex G1 G2 ∧ m = ds.length - i ∧ i ≤ ds.length ∧ Stp G1 s1 σ H1 G2 s1 σ2 H2, ⟨ds.length, G1, S1, Ex.refl G1, by simp, Nat.zero_le _, Stp.refl⟩, ?_⟩
  rintro i m σ2 H2 ⟨G2, S2, ex2, rfl, hi, st2⟩
  obtain ⟨j1, j2⟩ := hJ G2 s1 σ2 H2 ex2 S2 i
  by_cases hl : i < ds.length
  · obtain ⟨go, yl⟩ := j1 ds[i] (List.getElem?_eq_getElem hl)
    obtain ⟨s4, s5, cells, eb, ef, w5, k5, hq⟩ := good ds[i] (List.getElem_mem hl)
    refine .inr ⟨go, fun σ3 H3 => ∃ G3, SA X.K G3 s1 σ3 H3 ∧ Ex G1 G3 ∧ Stp G1 s1 σ H1 G3 s1 σ3 H3, fun σ3 H3 ⟨G3, S3, ex3, st3⟩ => ⟨ds.length - (i + 1), by omega, G3, S3, ex3, rfl, hl, st3⟩, fun x H3 y => ?_⟩
    obtain ⟨G3, st3, S3, rp⟩ := yl x H3 y
    refine ho x ds[i] G3 s1 σ2 H3 s4 _ S3 rp eb fun σ4 l4 n4 m4 w4 st4 S4 => ?_
    refine ⟨G3, s4, S4, ?_⟩
    rw [ef]
    intro G5 H5 st5 S5 v rr
    obtain ⟨pa, xs, rfl, ha, hd, hga, h0, hn⟩ := rr
    have exs : xs = cells.map V.int := ints_rp hd (by simp)
    subst exs
    have Sp := put_ok S5 k5 (x := .raw (.ref pa)) (v := .ref pa) rfl (fun _ _ z => nomatch z)
    have stp : Stp G3 s4 σ4 H3 G5 (putS k (.raw (.ref pa)) s5) (σ4.set k (some (.ref pa))) H5 := put_stp S5 st5 k5 (fun _ _ z => nomatch z)
    have w4n : s4.w = none := w4.trans w1
    have ow : ∀ j c, OwnAt (putS k (.raw (.ref pa)) s5) (σ4.set k (some (.ref pa))) j c → c ≠ pa := fun j c z q => by
      subst q
      rcases own_put k5 S5.len z with ⟨_, ⟨_, e⟩, _⟩ | ⟨_, z⟩
      · cases e
      · exact hn (.inl ⟨j, z⟩)
    have S6 : SA X.K G5 ⟨s5.d.set k (.raw (.ref pa)), some (pa, pa, cells, 0)⟩ (σ4.set k (some (.ref pa))) H5 := ⟨Sp.len, Sp.gh, Sp.slot, Sp.inj, Sp.ownG, ⟨trivial, by rw [pwA_eq]; exact ha, ha, hga, hga⟩, fun j c z q => ow j c z (q.elim id id)⟩
    have st6 : Stp G3 s4 σ4 H3 G5 ⟨s5.d.set k (.raw (.ref pa)), some (pa, pa, cells, 0)⟩ (σ4.set k (some (.ref pa))) H5 := ⟨stp.ex, stp.keep, fun c z => by
      rcases z with z | z
      · exact stp.own c (.inl z)
      · have : c = pa := z.elim id id
        subst this
        exact .inr h0, stp.dom, fun c z => by rw [w4n] at z; exact z.elim⟩
    obtain ⟨s6, eq, kz⟩ := hq pa
    refine ⟨G5, _, S6, ?_⟩
    rw [eq]
    intro G7 σ7 H7 st7 S7
    have stA : Stp G2 s1 σ2 H2 G7 s6 σ7 H7 := (st3.trans st4).trans (st6.trans st7)
    have stR : Stp G2 s1 σ2 H2 G7 s1 σ7 H7 := ⟨stA.ex, stA.keep, fun c z => (noOwnZ cz w1 z).elim, stA.dom, fun c z => by rw [w1] at z; exact z.elim⟩
    refine ⟨G7, ⟨by rw [← S7.len]; exact (keepZ_len kz).symm, S7.gh, fun j sl e => ?_, fun j _ c z => (noOwnZ cz w1 (.inl ⟨j, z⟩)).elim, fun j c z => (noOwnZ cz w1 (.inl ⟨j, z⟩)).elim, by rw [w1]; trivial, fun j c z => (noOwnZ cz w1 (.inl ⟨j, z⟩)).elim⟩, ex2.trans stR.ex, st2.trans stR⟩
    rcases keepZ_get kz e with q | q
    · subst q; trivial
    · exact S7.slot j sl q
  · have e : i = ds.length := by omega
    subst e
    exact .inl ⟨j2 (Nat.le_refl _), kk G2 σ2 H2 st2 S2⟩
end
end DL

/-! DL46: texts cut up -/
noncomputable section
namespace DL
open PySem L2 PyProof.Rows
open Evl (Ex)
def kSplitB (a : Str) (y : R) (s : DSt) : Res R := match look y s with
  | some (.str b) => if (b.length == 0) = false ∧ leS (a.length + 2) then .ok (.new ((Txt.split a b).map .str)) s else .stuck
  | _ => .stuck
def kSplitA (g : M R) (x : R) (s : DSt) : Res R := match look x s with
  | some (.str a) => (g s).bind (kSplitB a)
  | _ => .stuck
def fSplit (f g : M R) : M R := bnd f (kSplitA g)
@[simp] theorem x_split {f g : M R} {s : DSt} : fSplit f g s = (f s).bind (kSplitA g) := Eq.trans rfl rfl
@[simp] theorem y_kSplitA {g : M R} {a : Str} {s : DSt} : kSplitA g (.val (.str a)) s = (g s).bind (kSplitB a) := Eq.trans rfl rfl
@[simp] theorem y_kSplitB {a b : Str} {s : DSt} : kSplitB a (.val (.str b)) s = if (b.length == 0) = false ∧ leS (a.length + 2) then .ok (.new ((Txt.split a b).map .str)) s else .stuck := Eq.trans rfl rfl
theorem rp_strs {K : PySem.W.Frag} {G : Hp} : ∀ ws : List Str, RpAll K G (ws.map V.str) (ws.map .str)
  | [] => .nil
  | a :: ws => .cons (.str a) (rp_strs ws)
section
variable {X : Cx} {cl : String → Addr} {W : WX} {a b : Expr} {f g : M R} {pos : Pos}
theorem d_split {apos : Pos} (ha : DE X cl W a f) (hb : DE X cl W b g) (hs : starEach [b] X.env = [(false, eval b X.env)] := by rfl) (hbase : attributeBase a "split" X.env (eval a X.env) = eval a X.env := by rfl) (hline : (apos.endLine == pos.line) = true := by rfl) :
    DE X cl W (.Call (.Attribute a "split" apos) [b] [] pos) (fSplit f g) := by
  refine pe_imp (pe_split ha hb hs hbase hline) fun σ H Q ⟨G, s, S, q⟩ => ?_
  refine ⟨G, s, S, out_mono (out_bind q) fun r G1 s1 H1 st1 S1 k1 v rr => ?_⟩
  unfold kSplitA at k1
  split at k1
  · rename_i x e1
    obtain rfl := dq_str (look_q S1 rr e1)
    refine ⟨⟨x, rfl⟩, G1, s1, S1, out_mono (out_bind k1) fun r2 G2 s2 H2 st2 S2 k2 u ru => ?_⟩
    unfold kSplitB at k2
    split at k2
    · rename_i y e2
      obtain rfl := dq_str (look_q S2 ru e2)
      split at k2
      · rename_i hh
        refine ⟨x, y, rfl, rfl, hh.1, hh.2, fun p0 hp0 => ?_⟩
        obtain ⟨st3, S3, r3⟩ := new_list (H0 := H) S2 hp0 (rp_strs (Txt.split x y)) (st1.trans st2).dom
        exact k2 G2 _ st3 S3 _ r3
      · exact k2.elim
    · exact k2.elim
  · exact k1.elim
end
end DL

/-! DL47: sorted(set(e)), e a list of twos of numbers -/
noncomputable section
namespace DL
open PySem L2 PyProof.Rows
open Evl (Ex)
def prT (p : Int × Int) : PyData := .tuple [.int p.1, .int p.2]
def pairD : PyData → Option (Int × Int)
  | .tuple [.int a, .int b] => some (a, b)
  | _ => none
def pairsD : List PyData → Option (List (Int × Int))
  | [] => some []
  | d :: r => match pairD d, pairsD r with
    | some p, some ps => some (p :: ps)
    | _, _ => none
@[simp] theorem pairD_prT (p : Int × Int) : pairD (prT p) = some p := rfl
theorem pairsD_map : ∀ ps : List (Int × Int), pairsD (ps.map prT) = some ps
  | [] => rfl
  | p :: ps => by rw [List.map_cons, pairsD, pairD_prT, pairsD_map ps]
theorem pairD_inv {d : PyData} {p : Int × Int} (h : pairD d = some p) : d = prT p := by
  unfold pairD at h
  split at h
  · cases h; rfl
  · cases h
theorem pairsD_inv : ∀ {ds : List PyData} {ps : List (Int × Int)}, pairsD ds = some ps → ds = ps.map prT
  | [], ps, h => by cases h; rfl
  | d :: r, ps, h => by
    unfold pairsD at h
    cases e1 : pairD d with
    | none => rw [e1] at h; cases h
    | some p =>
      cases e2 : pairsD r with
      | none => rw [e1, e2] at h; cases h
      | some qs =>
        rw [e1, e2] at h
        cases h
        rw [List.map_cons, ← pairD_inv e1, ← pairsD_inv e2]
/-! ### rising twos -/
def ltP (p q : Int × Int) : Prop := p.1 < q.1 ∨ (p.1 = q.1 ∧ p.2 < q.2)
instance (p q : Int × Int) : Decidable (ltP p q) := by unfold ltP; infer_instance
def insP (p : Int × Int) : List (Int × Int) → List (Int × Int)
  | [] => [p]
  | q :: r => if p = q then q :: r else if ltP p q then p :: q :: r else q :: insP p r
def setP : List (Int × Int) → List (Int × Int)
  | [] => []
  | p :: r => insP p (setP r)
theorem ltP_trans {p q r : Int × Int} (h1 : ltP p q) (h2 : ltP q r) : ltP p r := by unfold ltP at *; omega
theorem ltP_irr {p : Int × Int} : ¬ ltP p p := by unfold ltP; omega
theorem ltP_tri {p q : Int × Int} (h : p ≠ q) : ltP p q ∨ ltP q p := by
  unfold ltP
  have : ¬ (p.1 = q.1 ∧ p.2 = q.2) := fun e => h (Prod.ext e.1 e.2)
  omega
theorem mem_insP {p x : Int × Int} : ∀ {l : List (Int × Int)}, x ∈ insP p l ↔ x = p ∨ x ∈ l
  | [] => by simp [insP]
  | q :: r => by
    unfold insP
    split
    · rename_i e; subst e; simp
    · split
      · simp
      · rw [List.mem_cons, mem_insP, List.mem_cons]
        constructor
        · rintro (h | h | h)
          · exact .inr (.inl h)
          · exact .inl h
          · exact .inr (.inr h)
        · rintro (h | h | h)
          · exact .inr (.inl h)
          · exact .inl h
          · exact .inr (.inr h)
theorem insP_pw {p : Int × Int} : ∀ {l : List (Int × Int)}, l.Pairwise ltP → (insP p l).Pairwise ltP
  | [], _ => List.pairwise_singleton _ _
  | q :: r, h => by
    have hh := List.pairwise_cons.mp h
    unfold insP
    split
    · exact h
    · rename_i ne
      split
      · rename_i lt
        exact List.pairwise_cons.mpr ⟨fun x hx => (List.mem_cons.mp hx).elim (fun e => e ▸ lt) fun m => ltP_trans lt (hh.1 x m), h⟩
      · rename_i nlt
        refine List.pairwise_cons.mpr ⟨fun x hx => ?_, insP_pw hh.2⟩
        rcases mem_insP.mp hx with e | m
        · subst e; exact (ltP_tri ne).resolve_left nlt
        · exact hh.1 x m
theorem mem_setP {x : Int × Int} : ∀ {l : List (Int × Int)}, x ∈ setP l ↔ x ∈ l
  | [] => by simp [setP]
  | p :: r => by rw [setP, mem_insP, mem_setP, List.mem_cons]
theorem setP_pw : ∀ l : List (Int × Int), (setP l).Pairwise ltP
  | [] => .nil
  | p :: r => by rw [setP]; exact insP_pw (setP_pw r)
theorem ltP_eq : ∀ {l m : List (Int × Int)}, l.Pairwise ltP → m.Pairwise ltP → (∀ x, x ∈ l ↔ x ∈ m) → l = m
  | [], [], _, _, _ => rfl
  | [], b :: m, _, _, h => by have := (h b).mpr List.mem_cons_self; simp at this
  | a :: l, [], _, _, h => by have := (h a).mp List.mem_cons_self; simp at this
  | a :: l, b :: m, h1, h2, h => by
    have ha := List.pairwise_cons.mp h1
    have hb := List.pairwise_cons.mp h2
    have e : a = b := by
      rcases List.mem_cons.mp ((h a).mp List.mem_cons_self) with e | e
      · exact e
      · rcases List.mem_cons.mp ((h b).mpr List.mem_cons_self) with f | f
        · exact f.symm
        · exact (ltP_irr (ltP_trans (hb.1 a e) (ha.1 b f))).elim
    subst e
    refine congrArg (a :: ·) (ltP_eq ha.2 hb.2 fun x => ⟨fun hx => ?_, fun hx => ?_⟩)
    · rcases List.mem_cons.mp ((h x).mp (List.mem_cons_of_mem _ hx)) with e | e
      · subst e; exact (ltP_irr (ha.1 _ hx)).elim
      · exact e
    · rcases List.mem_cons.mp ((h x).mpr (List.mem_cons_of_mem _ hx)) with e | e
      · subst e; exact (ltP_irr (hb.1 _ hx)).elim
      · exact e
theorem setP_eq {l m : List (Int × Int)} (h : m.Pairwise ltP) (hm : ∀ x, x ∈ m ↔ x ∈ l) : m = setP l := ltP_eq h (setP_pw l) fun x => (hm x).trans mem_setP.symm
/-! ### -/
def nnP (ps : List (Int × Int)) : Prop := ∀ p ∈ ps, 0 ≤ p.1 ∧ 0 ≤ p.2
instance instDecNnP (ps : List (Int × Int)) : Decidable (nnP ps) := Classical.propDecidable _
def kSortSetP (r : R) (s : DSt) : Res R := match look r s with
  | some (.list ds) => (match pairsD ds with
    | some ps => if ps.length < 64 ∧ nnP ps then .ok (.new ((setP ps).map prT)) s else .stuck
    | none => .stuck)
  | _ => .stuck
@[simp] theorem y_kSortSetP (r : R) (s : DSt) : kSortSetP r s = (match look r s with | some (.list ds) => (match pairsD ds with | some ps => if ps.length < 64 ∧ nnP ps then .ok (.new ((setP ps).map prT)) s else .stuck | none => .stuck) | _ => .stuck) := Eq.trans rfl rfl
def fSortSetP (f : M R) : M R := bnd f kSortSetP
@[simp] theorem x_sortSetP {f : M R} {s : DSt} : fSortSetP f s = (f s).bind kSortSetP := Eq.trans rfl rfl
theorem bound_ex : ∀ ps : List (Int × Int), ∃ B : Int, ∀ p ∈ ps, p.1 < B ∧ p.2 < B
  | [] => ⟨0, fun _ h => by simp at h⟩
  | p :: ps => by
    obtain ⟨B, hB⟩ := bound_ex ps
    refine ⟨max B (max (p.1 + 1) (p.2 + 1)), fun q hq => ?_⟩
    rcases List.mem_cons.mp hq with e | e
    · subst e; omega
    · have := hB q e; omega
theorem pairs_rp {K : PySem.W.Frag} {G : Hp} : ∀ {ps : List (Int × Int)} {xs : List V}, RpAll K G xs (ps.map prT) → ∃ ks : List (Addr × (Int × Int)), xs = ks.map (fun k => V.ref k.1) ∧ ks.map (·.2) = ps ∧ ∀ k ∈ ks, SqT K G k.1 [V.int k.2.1, V.int k.2.2]
  | [], _, h => by cases h; exact ⟨[], rfl, rfl, fun _ h => by simp at h⟩
  | p :: ps, _, h => by
    cases h with
    | cons h1 h2 =>
      obtain ⟨ks, rfl, e2, h3⟩ := pairs_rp h2
      cases h1 with
      | @tup a ys _ ht hs =>
        cases hs with
        | cons i1 hs =>
          cases hs with
          | cons i2 hs =>
            cases hs
            cases i1
            cases i2
            refine ⟨(a, p) :: ks, rfl, by simp [e2], fun k hk => ?_⟩
            rcases List.mem_cons.mp hk with e | e
            · subst e; exact ht
            · exact h3 k e
theorem rp_pairs {K : PySem.W.Frag} {G : Hp} : ∀ {ks : List (Addr × (Int × Int))}, (∀ k ∈ ks, SqT K G k.1 [V.int k.2.1, V.int k.2.2]) → RpAll K G (ks.map fun k => V.ref k.1) (ks.map fun k => prT k.2)
  | [], _ => .nil
  | k :: ks, h => .cons (.tup (h k List.mem_cons_self) (.cons (.int _) (.cons (.int _) .nil))) (rp_pairs fun q hq => h q (List.mem_cons_of_mem _ hq))
section
variable {X : Cx} {cl : String → Addr} {W : WX} {e a b c : Expr} {f g : M R} {pos : Pos}
theorem d_sortSetP {p p2 q pos : Pos} (hc : X.calm = true) (hu : X.A.units + 64 < cLine) (hg : Gl X "sorted") (hm : X.mg "sorted" = none) (hg2 : Gl X "set") (hm2 : X.mg "set" = none) (ha : DE X cl W a f)
    (na : starEach [a] X.env = (false, eval a X.env) :: starEach [] X.env := by rfl) (na2 : starEach [.Call (.Name "set" p2) [a] [] q] X.env = (false, eval (.Call (.Name "set" p2) [a] [] q) X.env) :: starEach [] X.env := by rfl) :
    DE X cl W (.Call (.Name "sorted" p) [.Call (.Name "set" p2) [a] [] q] [] pos) (fSortSetP f) := by
  refine pe_imp (pe_callB (cr_sortedT hc) hg hm (by decide +kernel) (pa_cons (pe_callTy (cr_setOfT hc hu) hg2 hm2 (by decide +kernel) (pa_cons ha pa_nil na) (by decide) (by decide) na rfl) pa_nil na2) (by decide) (by decide) na2 rfl) fun σ H Q ⟨G, s, S, q⟩ => ?_
  refine ⟨G, s, S, out_mono (out_bind q) fun x G1 s1 H1 st1 S1 k v rr => ?_⟩
  unfold kSortSetP at k
  split at k
  · rename_i ds e1
    split at k
    · rename_i ps en
      split at k
      · rename_i hl
        obtain ⟨hl, nn⟩ := hl
        obtain ⟨l, xs, rfl, hp, hd⟩ := dq_lst (look_q S1 rr e1)
        rw [pairsD_inv en] at hd
        obtain ⟨ks, rfl, ek, ht⟩ := pairs_rp hd
        obtain ⟨B, hB⟩ := bound_ex ps
        have hk2 : ∀ k ∈ ks, k.2 ∈ ps := fun k hk => by rw [← ek]; exact List.mem_map_of_mem hk
        have lk : ks.length = ps.length := by rw [← ek, List.length_map]
        refine ⟨l, ks.map fun k => (k.1, [k.2.1, k.2.2]), rfl, .of (by rw [List.map_map]; exact hp), fun p hpk => ?_, by rw [List.length_map]; omega, fun a L hn hsub hall => ?_⟩
        · obtain ⟨k, hk, rfl⟩ := List.mem_map.mp hpk
          exact Evl.ex_t S1.gh (ht k hk)
        · obtain ⟨st2, S2⟩ := new_known (SetTO X.prog X.w a L) S1 hn
          refine ⟨a, L, 2, B, rfl, upd_same, fun p hpL => ?_, by decide, fun p hpL => ?_, fun L' p0 hperm hnd hlt hpw hp0 => ?_⟩
          · obtain ⟨k, hk, rfl⟩ := List.mem_map.mp (hsub p hpL)
            exact Evl.ex_t (st2.ex.trans S2.gh) (ht k hk)
          · obtain ⟨k, hk, rfl⟩ := List.mem_map.mp (hsub p hpL)
            refine ⟨rfl, fun m hm => ?_⟩
            have h1 := nn _ (hk2 k hk)
            have h2 := hB _ (hk2 k hk)
            simp at hm
            rcases hm with rfl | rfl <;> omega
          · obtain ⟨g, eg⟩ : ∃ g : Addr × List Int → Addr × (Int × Int), g = fun p => (p.1, (p.2.getD 0 0, p.2.getD 1 0)) := ⟨_, rfl⟩
            have inL : ∀ p ∈ L', g p ∈ ks ∧ p = ((g p).1, [(g p).2.1, (g p).2.2]) := fun p hp' => by
              obtain ⟨k, hk, rfl⟩ := List.mem_map.mp (hsub p (hperm.mem_iff.mp hp'))
              subst eg
              exact ⟨hk, rfl⟩
            have bd : ∀ p ∈ L', TS.Bd B [(g p).2.1, (g p).2.2] := fun p hp' m hm => by
              have h1 := nn _ (hk2 _ (inL p hp').1)
              have h2 := hB _ (hk2 _ (inL p hp').1)
              simp at hm
              rcases hm with rfl | rfl <;> omega
            have er : (L'.map fun q => V.ref q.1) = (L'.map g).map fun k => V.ref k.1 := by
              rw [List.map_map]
              refine List.map_congr_left fun p hp' => ?_
              subst eg
              rfl
            have es : (L'.map g).map (·.2) = setP ps := by
              refine setP_eq ?_ fun x => ⟨fun hx => ?_, fun hx => ?_⟩
              · rw [List.map_map, List.pairwise_map]
                have nd : L'.Pairwise fun q r => q.2 ≠ r.2 := by
                  have := hnd
                  rwa [List.Nodup, List.pairwise_map] at this
                refine (hpw.and nd).imp_of_mem fun {q r} hq hr h => ?_
                obtain ⟨h1, h2⟩ := h
                have e1 := (inL q hq).2
                have e2 := (inL r hr).2
                rw [e1, e2] at h1 h2
                have := code_lex (bd q hq) (bd r hr) h1
                show ltP (g q).2 (g r).2
                unfold ltP
                have : ¬ ((g q).2.1 = (g r).2.1 ∧ (g q).2.2 = (g r).2.2) := fun z => h2 (by show [(g q).2.1, (g q).2.2] = [(g r).2.1, (g r).2.2]; rw [z.1, z.2])
                omega
              · rw [List.map_map] at hx
                obtain ⟨p, hp', rfl⟩ := List.mem_map.mp hx
                exact hk2 _ (inL p hp').1
              · rw [← ek] at hx
                obtain ⟨k, hk, rfl⟩ := List.mem_map.mp hx
                obtain ⟨q, hq, e⟩ := List.mem_map.mp (hall (k.1, [k.2.1, k.2.2]) (List.mem_map_of_mem hk))
                have hq' := hperm.mem_iff.mpr hq
                rw [List.map_map]
                refine List.mem_map.mpr ⟨q, hq', ?_⟩
                have e2 := (inL q hq').2
                rw [e2] at e
                simp only [List.cons.injEq, and_true] at e
                exact Prod.ext e.1 e.2
            have ht' : ∀ k ∈ L'.map g, SqT X.K (upd G1 a (SetTO X.prog X.w a L)) k.1 [V.int k.2.1, V.int k.2.2] := fun k hk => by
              obtain ⟨p, hp', rfl⟩ := List.mem_map.mp hk
              exact Evl.ex_t st2.ex (ht _ (inL p hp').1)
            obtain ⟨st3, S3, r3⟩ := new_list (H0 := H) S2 hp0 (rp_pairs ht') (st1.trans st2).dom
            rw [er]
            have em : (L'.map g).map (fun k => prT k.2) = (setP ps).map prT := by
              rw [← es]
              simp only [List.map_map]
              rfl
            rw [em] at r3
            exact k _ _ (st2.trans st3) S3 _ r3
      · exact k.elim
    · exact k.elim
  · exact k.elim
end
end DL

/-! DL48: range downwards; x[i], x[j] = a, b of an own list -/
noncomputable section
namespace DL
open PySem L2 PyProof.Rows
open Evl (Ex)
def downD (lo : Int) (n : Nat) : List PyData := (List.range n).map fun (k : Nat) => PyData.int (lo - (k : Int))
theorem it_down {K : PySem.W.Frag} {G : Hp} {lo : Int} {n : Nat} : ItOk K (Itc lo (-1) n) (downD lo n) G := by
  intro G' s' σ' H' ex S i
  refine ⟨fun d e => ?_, fun hl => show n ≤ i by simpa [downD] using hl⟩
  have hi : i < n := by have := (List.getElem?_eq_some_iff.mp e).1; simpa [downD] using this
  have e2 : d = .int (lo - (i : Int)) := by simp [downD, hi] at e; exact e.symm
  subst e2
  exact ⟨hi, fun x H2 ⟨e1, e3⟩ => by
    subst e1
    have : lo + ((i : Nat) : Int) * (-1) = lo - (i : Int) := by omega
    rw [this] at e3
    subst e3
    exact ⟨G', Stp.refl, S, .int _⟩⟩
def kRng3 (rs : List R) (s : DSt) : Res (List PyData) := match rs with
  | [r, r2, r3] => match look r s, look r2 s, look r3 s with
    | some (.int i), some (.int j), some (.int c) => if c = -1 ∧ inB i ∧ inB j then .ok (downD i (i - j).toNat) s else .stuck
    | _, _, _ => .stuck
  | _ => .stuck
def fRng3 (fs : M (List R)) : M (List PyData) := bnd fs kRng3
@[simp] theorem x_rng3 {fs : M (List R)} {s : DSt} : fRng3 fs s = (fs s).bind kRng3 := Eq.trans rfl rfl
@[simp] theorem y_kRng3 (rs : List R) (s : DSt) : kRng3 rs s = (match rs with
  | [r, r2, r3] => match look r s, look r2 s, look r3 s with
    | some (.int i), some (.int j), some (.int c) => if c = -1 ∧ inB i ∧ inB j then .ok (downD i (i - j).toNat) s else .stuck
    | _, _, _ => .stuck
  | _ => .stuck) := Eq.trans rfl rfl
section
variable {X : Cx} {cl : String → Addr} {W : WX} {tg a b c e : Expr} {f g1 g2 : M R} {fs : M (List R)} {pos : Pos}
theorem i_range3 {p pos : Pos} (hg : Gl X "range") (hm : X.mg "range" = none) (ha : DA X cl W [a, b, c] fs)
    (hs : starEach [a, b, c] X.env = (false, eval a X.env) :: starEach [b, c] X.env := by rfl) (hpl : (backTo pos (starEach [b, c] X.env)).any (·.1) = false := by rfl) :
    DI X cl W tg (.Call (.Name "range" p) [a, b, c] [] pos) (fRng3 fs) := by
  refine pi_imp (pi_range3 hg hm ha hs hpl) fun σ H R ⟨G, s, S, q⟩ => ?_
  refine ⟨G, s, S, out_mono (out_bind q) fun rs G1 s1 H1 st1 S1 k vs rr => ?_⟩
  unfold kRng3 at k
  split at k
  · split at k
    · rename_i i j c e1 e2 e3
      split at k
      · rename_i hb
        obtain ⟨hc, h1, h2⟩ := hb
        cases rr with
        | cons r1 r2 =>
          cases r2 with
          | cons r2 r3 =>
            cases r3 with
            | cons r3 r4 =>
              cases r4
              obtain rfl := dq_int (look_q S1 r1 e1)
              obtain rfl := dq_int (look_q S1 r2 e2)
              obtain rfl := dq_int (look_q S1 r3 e3)
              subst hc
              exact ⟨i, j, -1, (i - j).toNat, rfl, RgC.neg h1.1 h1.2 h2.1 h2.2, k G1 H1 Stp.refl S1 _ it_down⟩
      · exact k.elim
    · exact k.elim
  · exact k.elim
/-- x[a], x[b] = e -/
def kSwap3 (i : Nat) (d2 : PyData) (r : R) (s : DSt) : Flow := match look r s, s.d[i]? with
  | some (.int n), some (.own ds) => (match ixN ds.length n with
    | some j => .next (putS i (.own (ds.set j d2)) s)
    | none => .stuck)
  | _, _ => .stuck
def kSwap2 (i : Nat) (d1 d2 : PyData) (g2 : M R) (r : R) (s : DSt) : Flow := match look r s, s.d[i]? with
  | some (.int n), some (.own ds) => (match ixN ds.length n with
    | some j => onRes (g2 (putS i (.own (ds.set j d1)) s)) (kSwap3 i d2)
    | none => .stuck)
  | _, _ => .stuck
def kSwap1 (i : Nat) (g1 g2 : M R) (r : R) (s : DSt) : Flow := match r with
  | .val (.tuple [d1, d2]) => onRes (g1 s) (kSwap2 i d1 d2 g2)
  | _ => .stuck
def fSwap (i : Nat) (f g1 g2 : M R) : DSt → Flow := fun s => if isOwn i s = true then onRes (f s) (kSwap1 i g1 g2) else .stuck
@[simp] theorem x_swap {i : Nat} {f g1 g2 : M R} {s : DSt} : fSwap i f g1 g2 s = if isOwn i s = true then onRes (f s) (kSwap1 i g1 g2) else .stuck := Eq.trans rfl rfl
@[simp] theorem y_kSwap1 {i : Nat} {d1 d2 : PyData} {g1 g2 : M R} {s : DSt} : kSwap1 i g1 g2 (.val (.tuple [d1, d2])) s = onRes (g1 s) (kSwap2 i d1 d2 g2) := Eq.trans rfl rfl
@[simp] theorem y_kSwap2 (i : Nat) (d1 d2 : PyData) (g2 : M R) (r : R) (s : DSt) : kSwap2 i d1 d2 g2 r s = (match look r s, s.d[i]? with
  | some (.int n), some (.own ds) => (match ixN ds.length n with
    | some j => onRes (g2 (putS i (.own (ds.set j d1)) s)) (kSwap3 i d2)
    | none => .stuck)
  | _, _ => .stuck) := Eq.trans rfl rfl
@[simp] theorem y_kSwap3 (i : Nat) (d2 : PyData) (r : R) (s : DSt) : kSwap3 i d2 r s = (match look r s, s.d[i]? with
  | some (.int n), some (.own ds) => (match ixN ds.length n with
    | some j => .next (putS i (.own (ds.set j d2)) s)
    | none => .stuck)
  | _, _ => .stuck) := Eq.trans rfl rfl
theorem s_swap {i : Nat} {x y k l : Expr} {p1 p2 pt : Pos} {kt : Nat} (hc : X.calm = true) (he : DE X cl W e f) (hx : PE X x (tVar i)) (hk : DE X cl W k g1) (hy : PE X y (tVar i)) (hl : DE X cl W l g2)
    (ha : ∀ v, assign (.Subscript x k p1) X.env v = (do
      let ov ← holding [v] (eval x X.env)
      let iv ← holding [v, ov] (eval k X.env)
      standAt p1
      holding [v, ov, iv] (setItem ov iv v)
      release [v, ov, iv] []) := by intro _; rfl)
    (hb : ∀ v, assign (.Subscript y l p2) X.env v = (do
      let ov ← holding [v] (eval y X.env)
      let iv ← holding [v, ov] (eval l X.env)
      standAt p2
      holding [v, ov, iv] (setItem ov iv v)
      release [v, ov, iv] []) := by intro _; rfl)
    (hs : swapsWithSole [.Tuple [.Subscript x k p1, .Subscript y l p2] kt pt] e pos.line X.env = pure false := by rfl) (hw : swappedStores [.Tuple [.Subscript x k p1, .Subscript y l p2] kt pt] e X.env = pure none := by rfl) (h1 : (assignEach [.Tuple [.Subscript x k p1, .Subscript y l p2] kt pt] X.env).map (·.2) = [assign (.Tuple [.Subscript x k p1, .Subscript y l p2] kt pt) X.env] := by rfl)
    (h2 : (assignEach [.Subscript x k p1, .Subscript y l p2] X.env).map (·.2) = assign (.Subscript x k p1) X.env :: (assignEach [.Subscript y l p2] X.env).map (·.2) := by rfl)
    (h3 : (assignEach [.Subscript y l p2] X.env).map (·.2) = assign (.Subscript y l p2) X.env :: (assignEach [] X.env).map (·.2) := by rfl)
    (hn : (assignEach [.Subscript x k p1, .Subscript y l p2] X.env).length = 2 := by rfl) (hst : (assignEach [.Subscript x k p1, .Subscript y l p2] X.env).findIdx? (·.1) = none := by rfl) :
    DS X cl W (.Assign [.Tuple [.Subscript x k p1, .Subscript y l p2] kt pt] e pos) (fSwap i f g1 g2) := by
  refine ps_imp (ps_asg he (pg_tup hc (pgs_cons (pg_sub hx hk set_list ha) (pgs_cons (pg_sub hy hl set_list hb) pgs_nil h3) h2) hn hst) hs hw h1) fun D σ H ⟨G, s, S, h⟩ => ?_
  unfold fSwap at h
  split at h
  rotate_left
  · exact h.elim
  rename_i ho
  refine ⟨G, s, S, out_mono (fout_res h) fun r G1 s1 H1 st1 S1 k1 v rr => ?_⟩
  unfold kSwap1 at k1
  split at k1
  rotate_left
  · exact k1.elim
  rename_i d1 d2
  cases (show Rp X.K G1 v (.tuple [d1, d2]) from rr) with
  | tup hT hA =>
    cases hA with
    | cons r1 hA =>
      cases hA with
      | cons r2 hA =>
        cases hA
        rename_i y1 y2
        refine ⟨_, _, rfl, Evl.ex_t S1.gh hT, rfl, _, _, rfl, ?_⟩
        obtain ⟨ds0, h0⟩ := isOwn_get ho
        obtain ⟨l0, xs0, el, _, _⟩ := own_at S h0
        refine ⟨.ref l0, el, G1, s1, S1, ?_⟩
        refine out_mono (fout_res (fout_shift st1 k1)) fun q G2 s2 H2 st2 S2 k3 u ru => ?_
        unfold kSwap2 at k3
        split at k3
        rotate_left
        · exact k3.elim
        rename_i n ds e1 e2
        split at k3
        rotate_left
        · exact k3.elim
        rename_i j ej
        obtain rfl := dq_int (look_q S2 ru e1)
        obtain ⟨l2, xs, el2, hl2, hd2⟩ := own_at S2 e2
        rw [el] at el2
        cases el2
        obtain ⟨st3, S3⟩ := own_write S2 e2 el (dps_set (dp_mono st2.ex _ _ r1) j hd2)
        refine ⟨l0, xs, n, j, rfl, rfl, hl2, by rw [dps_len hd2]; exact ej, ?_⟩
        refine ⟨_, _, rfl, .ref l0, el, G2, _, S3, ?_⟩
        refine out_mono (fout_res (fout_shift (st2.trans st3) k3)) fun q4 G4 s4 H4 st4 S4 k4 u4 ru4 => ?_
        unfold kSwap3 at k4
        split at k4
        rotate_left
        · exact k4.elim
        rename_i n4 ds4 e14 e24
        split at k4
        rotate_left
        · exact k4.elim
        rename_i j4 ej4
        obtain rfl := dq_int (look_q S4 ru4 e14)
        obtain ⟨l4, xs4, el4, hl4, hd4⟩ := own_at S4 e24
        rw [el] at el4
        cases el4
        obtain ⟨st5, S5⟩ := own_write S4 e24 el (dps_set (dp_mono ((st2.trans (st3.trans st4)).ex) _ _ r2) j4 hd4)
        refine ⟨l0, xs4, n4, j4, rfl, rfl, hl4, by rw [dps_len hd4]; exact ej4, rfl, ?_⟩
        exact k4 _ σ _ (st4.trans st5) S5
end
end DL

/-! DL49: dict(zip(a, b)), numbers (or texts) as keys -/
noncomputable section
namespace DL
open PySem L2 PyProof.Rows
open Evl (Ex)
theorem kv_pairs {P : Program} {w : World} : ∀ {ks : List Key} {ys : List V} {us vs : List Value}, Vals (ks.map L2.kV) us → Vals ys vs → KV (ks.zip ys) (ks.zip vs) ∧ ∀ (i : Nat) (key v : Value), us[i]? = some key → vs[i]? = some v → ∃ k, (ks.zip vs)[i]? = some (k, v) ∧ (mixKind P w).is k key = true
  | [], _, _, _, .nil, _ => ⟨.nil, fun i key v e => by simp at e⟩
  | k :: ks, _, _, _, .cons h t, .nil => ⟨.nil, fun i key v _ e => by simp at e⟩
  | k :: ks, _, _, _, .cons h t, .cons h2 t2 => by
    obtain ⟨r, q⟩ := kv_pairs (P := P) (w := w) t t2
    refine ⟨.cons ⟨rfl, h2⟩ r, fun i key v e1 e2 => ?_⟩
    cases i with
    | zero =>
      cases e1
      cases e2
      exact ⟨k, rfl, kV_is h⟩
    | succ i => exact q i key v e1 e2
def tDZip (K : PySem.W.Frag) (ta : TA) : TE := fun σ H Q => ta σ H fun vs H1 => ∃ (a b : Addr) (ks : List Key) (ys : List V), vs = [.ref a, .ref b] ∧ SqL K H1 a (ks.map L2.kV) ∧ SqL K H1 b ys ∧ ks.length = ys.length ∧ ∀ p, H1 p = none → Q (.ref p) (upd H1 p (.dK (mergeK [] (ks.zip ys))))
section
variable {X : Cx} {cl : String → Addr} {W : WX} {a b : Expr} {f g : M R} {fs : M (List R)} {pos : Pos}
theorem pe_dictZip {ta : TA} {p p2 q : Pos} (hc : X.calm = true) (hg : Gl X "dict") (hm : X.mg "dict" = none) (hg2 : Gl X "zip") (hm2 : X.mg "zip" = none) (ha : PA X [a, b] ta)
    (na : starEach [.Call (.Name "zip" p2) [a, b] [] q] X.env = (false, eval (.Call (.Name "zip" p2) [a, b] [] q) X.env) :: starEach [] X.env := by rfl)
    (hs : starEach [a, b] X.env = (false, eval a X.env) :: starEach [b] X.env := by rfl) (hpl : (backTo q (starEach [b] X.env)).any (·.1) = false := by rfl) :
    PE X (.Call (.Name "dict" p) [.Call (.Name "zip" p2) [a, b] [] q] [] pos) (tDZip X.K ta) := by
  refine ⟨fun pins s σ H Q I h => Call_ (ld_blt I hg hm boot_dict ?_)⟩
  refine PyProof.Rows.callWith_type1 (PyProof.Rows.args_cons ?_ na) na rfl
  refine Call_ (ld_blt I hg2 hm2 boot_zip (PyProof.Rows.callWith_type1 (thn (ha.run q pins s σ H _ I h) fun us s1 ⟨vs, H1, I1, r1, q1⟩ => ?_) hs hpl))
  obtain ⟨a, b, ks, ys, rfl, hqx, hqy, hl, q1⟩ := q1
  cases r1 with
  | cons r rr =>
    cases rr with
    | cons r' rr =>
      cases rr
      cases r
      cases r'
      obtain ⟨its, rv, p1, hz1⟩ := I1.list hqx
      obtain ⟨its2, rv2, p2, hz2⟩ := I1.list hqy
      have la : a < s1.heap.objs.size := p1.lt
      have lb : b < s1.heap.objs.size := p2.lt
      have l1 : its.length = ks.length := by rw [← rv.length, List.length_map]
      have l2 : its2.length = ys.length := rv2.length.symm
      obtain ⟨kvr, kvi⟩ := kv_pairs (P := X.prog) (w := X.w) rv rv2
      refine call_zip_2 p1.isList p2.isList fun h' hz hTI hTO h1 h2 hsz hk => ?_
      refine PyProof.Rows.args_nil ?_
      have I2 : Inv X pins σ H1 { s1 with heap := h' } := I1.kept (t' := s1.toks) hk
      have hl1 : h'.IsList a its.toArray := p1.isList.at fun o e => hk _ o e
      have hl2 : h'.IsList b its2.toArray := p2.isList.at fun o e => hk _ o e
      refine PySem.call_dict_pairs (knd := mixKind X.prog X.w) (kvs := ks.zip its2) (PairArg.zip _ _ _ _ _ a b (PySem.W.ktu_apart s1.heap.objs.size a b la lb) its.toArray its2.toArray) (I2.ok.hd hc) ⟨hz, hTI, ⟨_, _, hTO⟩, h1, h2, hl1, hl2⟩ ⟨?_, fun i key v e => ?_⟩ ?_ fun h'' tk hd' hk' => ?_
      · rw [List.length_zip, List.size_toArray, List.size_toArray, l1, l2]
      · exact kvi i key v (by simpa using e.1) (by simpa using e.2)
      · rw [List.size_toArray, List.size_toArray]
        rw [List.length_map] at hz1
        omega
      · have keep : ∀ c o, s1.heap.get? c = some o → h''.get? c = some o := fun c o e => by
          have hlt := Heap.lt_size e
          refine hk' c o (fun z => ?_) (hk c o e)
          simp only [List.mem_cons, List.not_mem_nil, or_false] at z
          rcases z with z | z | z | z <;> rw [z] at hlt
          · exact Nat.not_lt.mpr (Nat.le_add_right _ _) hlt
          · exact Nat.not_lt.mpr (Nat.le_add_right _ _) hlt
          · exact Nat.lt_irrefl _ hlt
          · exact Nat.not_lt.mpr (Nat.le_add_right _ _) hlt
        have big : s1.heap.objs.size ≤ h'.objs.size := by rw [hsz]; exact Nat.le_add_right _ _
        have hm3 : (h'.objs.size == sysModules) = false := beq_eq_false_iff_ne.mpr (Nat.ne_of_gt (Nat.lt_of_lt_of_le I1.big big))
        have hlen : (mergeK [] (ks.zip ys)).length ≤ sizeLine := by
          refine Nat.le_trans (length_mergeK _ []) ?_
          rw [List.length_nil, Nat.zero_add, List.length_zip]
          rw [List.length_map] at hz1
          omega
        exact ⟨.ref h'.objs.size, upd H1 h'.objs.size (.dK (mergeK [] (ks.zip ys))), I1.laid (t' := tk) keep big (show ObjOk X.prog X.w _ _ _ (.dK (mergeK [] (ks.zip ys))) from ⟨hlen, hm3, merged [] (ks.zip its2), KV.merge kvr .nil, hd'⟩), rfl, q1 _ (I1.hok.fresh big)⟩
end
def keysD : List PyData → Option (List Key)
  | [] => some []
  | d :: r => match keyD d, keysD r with
    | some k, some ks => some (k :: ks)
    | _, _ => none
theorem keys_rp {K : PySem.W.Frag} {G : Hp} : ∀ {xs : List V} {ds : List PyData} {ks : List Key}, RpAll K G xs ds → keysD ds = some ks → xs = ks.map L2.kV ∧ ks.length = ds.length
  | _, _, ks, .nil, e => by cases e; exact ⟨rfl, rfl⟩
  | x :: xs, d :: ds, ks, .cons h t, e => by
    unfold keysD at e
    cases e1 : keyD d with
    | none => rw [e1] at e; cases e
    | some k =>
      cases e2 : keysD ds with
      | none => rw [e1, e2] at e; cases e
      | some js =>
        rw [e1, e2] at e
        cases e
        obtain ⟨r, l⟩ := keys_rp t e2
        have hx : x = L2.kV k := by
          cases d with
          | int i => cases e1; cases h; rfl
          | str i => cases e1; cases h; rfl
          | _ => cases e1
        exact ⟨by rw [hx, r, List.map_cons], by rw [List.length_cons, List.length_cons, l]⟩
theorem zip_krp {K : PySem.W.Frag} {G : Hp} : ∀ {ks : List Key} {ys : List V} {es : List PyData}, RpAll K G ys es → KRp K G (ks.zip ys) (ks.zip es)
  | [], _, _, _ => .nil
  | k :: ks, _, _, .nil => .nil
  | k :: ks, _, _, .cons h t => .cons h (zip_krp t)
theorem mergeK_new : ∀ (more acc : List (Key × V)), (acc.map (·.1) ++ more.map (·.1)).Nodup → mergeK acc more = acc ++ more
  | [], acc, _ => by unfold mergeK; rw [List.foldl_nil, List.append_nil]
  | p :: more, acc, h => by
    have e : putK acc p.1 p.2 = acc ++ [p] := by
      unfold putK
      rw [if_neg]
      intro z
      obtain ⟨q, hq, e⟩ := List.any_eq_true.mp z
      have e := of_decide_eq_true e
      exact (List.nodup_append.mp h).2.2 q.1 (List.mem_map_of_mem hq) p.1 (by simp) e
    show mergeK (putK acc p.1 p.2) more = _
    rw [e, mergeK_new more (acc ++ [p]) (by simpa using h), List.append_assoc]
    rfl
def nodupK (ks : List Key) (n m : Nat) : Prop := ks.Nodup ∧ n = m
instance instDecNodupK (ks : List Key) (n m : Nat) : Decidable (nodupK ks n m) := Classical.propDecidable _
def kDZip (rs : List R) (s : DSt) : Res R := match rs with
  | [.val (.list ds), .val (.list es)] => (match keysD ds with
    | some ks => if nodupK ks ds.length es.length then .ok (.ob (.dict (ks.zip es))) s else .stuck
    | none => .stuck)
  | _ => .stuck
def fDZip (fs : M (List R)) : M R := bnd fs kDZip
@[simp] theorem x_dzip {fs : M (List R)} {s : DSt} : fDZip fs s = (fs s).bind kDZip := Eq.trans rfl rfl
@[simp] theorem y_kDZip {ds es : List PyData} {s : DSt} : kDZip [.val (.list ds), .val (.list es)] s = (match keysD ds with
    | some ks => if nodupK ks ds.length es.length then .ok (.ob (.dict (ks.zip es))) s else .stuck
    | none => .stuck) := Eq.trans rfl rfl
section
variable {X : Cx} {cl : String → Addr} {W : WX} {a b : Expr} {f g : M R} {fs : M (List R)} {pos : Pos}
theorem d_dictZip {p p2 q : Pos} (hc : X.calm = true) (hg : Gl X "dict") (hm : X.mg "dict" = none) (hg2 : Gl X "zip") (hm2 : X.mg "zip" = none) (ha : DAe X cl W [a, b] fs)
    (na : starEach [.Call (.Name "zip" p2) [a, b] [] q] X.env = (false, eval (.Call (.Name "zip" p2) [a, b] [] q) X.env) :: starEach [] X.env := by rfl)
    (hs : starEach [a, b] X.env = (false, eval a X.env) :: starEach [b] X.env := by rfl) (hpl : (backTo q (starEach [b] X.env)).any (·.1) = false := by rfl) :
    DE X cl W (.Call (.Name "dict" p) [.Call (.Name "zip" p2) [a, b] [] q] [] pos) (fDZip fs) := by
  refine pe_imp (pe_dictZip hc hg hm hg2 hm2 ha na hs hpl) fun σ H Q ⟨G, s, S, q⟩ => ?_
  refine ⟨G, s, S, out_mono (out_bind q) fun rs G1 s1 H1 st1 S1 k vs rr => ?_⟩
  unfold kDZip at k
  split at k
  · rename_i ds es
    split at k
    · rename_i ks ek
      split at k
      · rename_i hn
        cases rr with
        | cons r1 r2 =>
          cases r2 with
          | cons r2 r3 =>
            cases r3
            cases (show Rp X.K G1 _ (.list ds) from r1) with
            | lst h ha =>
              cases (show Rp X.K G1 _ (.list es) from r2) with
              | lst h' ha' =>
                rename_i a1 xs1 a2 ys
                obtain ⟨rfl, lk⟩ := keys_rp ha ek
                have lz : ks.length = ys.length := by rw [lk, hn.2, dps_len ha']
                refine ⟨_, _, ks, ys, rfl, .of (S1.gh _ _ h), .of (S1.gh _ _ h'), lz, fun p hp => ?_⟩
                have em : mergeK [] (ks.zip ys) = ks.zip ys := by
                  rw [mergeK_new _ _ (by
                    rw [List.map_nil, List.nil_append, List.map_fst_zip (by omega)]
                    exact hn.1), List.nil_append]
                rw [em]
                obtain ⟨st2, S2⟩ := new_known (.dK (ks.zip ys)) S1 hp
                exact k _ _ st2 S2 _ ⟨p, _, rfl, upd_same, zip_krp (dps_mono st2.ex _ _ ha')⟩
      · exact k.elim
    · exact k.elim
  · exact k.elim
end
end DL

noncomputable section
namespace DL
open PySem L2
def b_law_purse_1 : DSt → Flow := fIfS (fB (fOp (lift2 geO) (fCall absO (pCons (fOp (lift2 ixO) (fVar 1) (fVar 2)) fNil)) (fOp (lift2 powO) (fC (.int 10)) (fC (.int 18))))) (fSetIx 1 (fOp (lift2 modO) (fOp (lift2 ixO) (fVar 1) (fVar 2)) (fOp (lift2 powO) (fOp (lift2 powO) (fC (.int 10)) (fC (.int 60))) (fC (.int 20)))) (fVar 2)) fnext
abbrev o_law_purse_1 : List PyData → DSt → Flow := loopF (bName 2) b_law_purse_1
def p_law_purse : DSt → Flow := fseq (fFor (fRng1 (pCons (fCall lenO (pCons (fVar 1) fNil)) fNil)) (bName 2) b_law_purse_1) (fseq (fIfS (fB (fOp (lift2 eqO) (fVar 1) (fLst fNil))) (fSet 1 (fLst (fCons (fC (.int 0)) fNil))) fnext) (fRet (fLst (fCons (fVar 1) (fCons (fC (.int 0)) fNil)))))
def F_law_purse : List R → Pw → FRes := runF 3 1 p_law_purse
def p_law_draw : DSt → Flow := fseq (fUnP 0 2 3) (fseq (fSet 4 (fOp (lift2 modO) (fVar 3) (fLenC 2))) (fseq (fSet 5 (fIxC 2 (fVar 4))) (fseq (fSetT 0 (fOp (lift2 addO) (fVar 3) (fC (.int 1)))) (fseq (fIfS (fB (fOp (lift2 geO) (fVar 5) (fOp (lift2 powO) (fC (.int 10)) (fC (.int 18))))) (fseq (fSetC 2 (fOp (lift2 fdivO) (fVar 5) (fVar 1)) (fVar 4)) (fRet (fOp (lift2 modO) (fVar 5) (fVar 1)))) fnext) (fseq (fSet 6 (fOp (lift2 modO) (fOp (lift2 addO) (fOp (lift2 addO) (fOp (lift2 mulO) (fOp (lift2 modO) (fVar 5) (fC (.int 2147483629))) (fC (.int 48271))) (fOp (lift2 mulO) (fOp (lift2 mulO) (fVar 3) (fVar 3)) (fC (.int 69621)))) (fC (.int 11))) (fC (.int 2147483647)))) (fseq (fSet 6 (fOp (lift2 modO) (fOp (lift2 mulO) (fVar 6) (fVar 6)) (fC (.int 2147483629)))) (fseq (fSet 6 (fOp (lift2 modO) (fOp (lift2 mulO) (fVar 6) (fVar 6)) (fC (.int 2147483587)))) (fseq (fIfS (fB (fOp (lift2 gtO) (fVar 1) (fOp (lift2 powO) (fC (.int 10)) (fC (.int 9))))) (fseq (fSet 7 (fOp (lift2 modO) (fOp (lift2 addO) (fOp (lift2 addO) (fOp (lift2 mulO) (fVar 6) (fC (.int 39373))) (fOp (lift2 mulO) (fVar 3) (fC (.int 7919)))) (fC (.int 500))) (fC (.int 2147483629)))) (fSet 6 (fOp (lift2 mulO) (fVar 6) (fOp (lift2 addO) (fOp (lift2 mulO) (fOp (lift2 mulO) (fVar 7) (fVar 7)) (fVar 7)) (fC (.int 1)))))) fnext) (fRet (fOp (lift2 modO) (fVar 6) (fVar 1)))))))))))
def F_law_draw : List R → Pw → FRes := runF 8 2 p_law_draw
/-- the purse is sound -/
def WP (pa : Addr) (w : Pw) (m : Int) : Prop := ∃ (ca : Addr) (cells : List Int) (t : Int), pa ≠ ca ∧ w = some (pa, ca, cells, t) ∧ cells ≠ [] ∧ 0 ≤ t ∧ t ≤ m
theorem draw_ok {pa : Addr} {w : Pw} {m n : Int} (h : WP pa w m) (h1 : 0 < n) (h2 : n < 2 ^ 200) (hm : m < 2 ^ 60) : ∃ r w', F_law_draw [.raw (.ref pa), .val (.int n)] w = .ok (.val (.int r)) w' ∧ 0 ≤ r ∧ r < n ∧ WP pa w' (m + 1) := by
  obtain ⟨ca, cells, t, ne, rfl, hc, t0, tm⟩ := h
  have hl : 0 < cells.length := List.length_pos_iff.mpr hc
  have hl' : (0 : Int) < cells.length := by omega
  have a0 := Int.emod_nonneg t (by omega : (cells.length : Int) ≠ 0)
  have a1 := Int.emod_lt_of_pos t hl'
  obtain ⟨k, hk⟩ := Int.eq_ofNat_of_zero_le a0
  have hkl : k < cells.length := by omega
  have ix : ixN cells.length (k : Int) = some k := by
    unfold ixN
    rw [if_pos (by omega), if_pos (by omega)]
    simp
  obtain ⟨c, hcell⟩ : ∃ c, cells[k]? = some c := ⟨_, List.getElem?_eq_getElem hkl⟩
  have hcell' : cells[k] = c := by
    rw [List.getElem?_eq_getElem hkl] at hcell
    exact Option.some.inj hcell
  have wp : ∀ cs : List Int, cs ≠ [] → WP pa (some (pa, ca, cs, t + 1)) (m + 1) := fun cs h => ⟨ca, cs, t + 1, ne, rfl, h, by omega, by omega⟩
  have r0 : ∀ x : Int, 0 ≤ x % n := fun x => Int.emod_nonneg x (by omega)
  have r1 : ∀ x : Int, x % n < n := fun x => Int.emod_lt_of_pos x h1
  unfold F_law_draw p_law_draw
  simp only [x_runF, List.length_cons, List.length_nil]
  by_cases hb : 1000000000000000000 ≤ c
  · have e1 := fdiv_ok (a := c) h1 h2
    simp -implicitDefEqProofs [ne, hl, hk, atI_nat, hkl, ix, hcell', mod_ok, h1, hb, e1, r0, r1]
    exact ⟨_, _, ⟨rfl, rfl⟩, r0 _, r1 _, wp _ (by simpa using hc)⟩
  · have t2 : t * t ≤ 2 ^ 60 * 2 ^ 60 := Int.mul_le_mul (by omega) (by omega) t0 (by decide)
    have t3 : 0 ≤ t * t := Int.mul_nonneg t0 t0
    have e2 : mulO (.int (c % 2147483629)) (.int 48271) = _ := mul_ok (by omega) (by omega) (by omega) (by omega)
    have e3 : mulO (.int t) (.int t) = _ := mul_ok (by omega) (by omega) (by omega) (by omega)
    have e4 : mulO (.int (t * t)) (.int 69621) = _ := mul_ok (by omega) (by omega) (by omega) (by omega)
    have sq : ∀ x : Int, 0 ≤ x → x < 2147483647 → mulO (.int x) (.int x) = some (.val (.int (x * x))) := fun x h1 h2 => mul_ok (by omega) (by omega) (by omega) (by omega)
    simp -implicitDefEqProofs [ne, hl, hk, atI_nat, hkl, ix, hcell', mod_ok, h1, hb, r0, r1, e2, e3, e4]
    obtain ⟨x, hx⟩ : ∃ x, x = (c % 2147483629 * 48271 + t * t * 69621 + 11) % 2147483647 := ⟨_, rfl⟩
    have x0 : 0 ≤ x ∧ x < 2147483647 := by omega
    rw [← hx]
    simp [ne, sq x x0.1 x0.2]
    obtain ⟨y, hy⟩ : ∃ y, y = x * x % 2147483629 := ⟨_, rfl⟩
    have y0 : 0 ≤ y ∧ y < 2147483647 := by omega
    rw [← hy]
    simp [ne, sq y y0.1 y0.2]
    obtain ⟨z, hz⟩ : ∃ z, z = y * y % 2147483587 := ⟨_, rfl⟩
    have z0 : 0 ≤ z ∧ z < 2147483647 := by omega
    rw [← hz]
    by_cases hn : 1000000000 < n
    · have f1 : mulO (.int z) (.int 39373) = _ := mul_ok (by omega) (by omega) (by omega) (by omega)
      have f2 : mulO (.int t) (.int 7919) = _ := mul_ok (by omega) (by omega) (by omega) (by omega)
      simp [ne, hn, f1, f2]
      obtain ⟨u, hu⟩ : ∃ u, u = (z * 39373 + t * 7919 + 500) % 2147483629 := ⟨_, rfl⟩
      have u0 : 0 ≤ u ∧ u < 2147483647 := by omega
      have u2 : u * u ≤ 2147483647 * 2147483647 := Int.mul_le_mul (by omega) (by omega) u0.1 (by decide)
      have u3 : 0 ≤ u * u := Int.mul_nonneg u0.1 u0.1
      have u4 : u * u * u ≤ 2147483647 * 2147483647 * 2147483647 := Int.mul_le_mul (by omega) (by omega) u0.1 (by decide)
      have u5 : 0 ≤ u * u * u := Int.mul_nonneg u3 u0.1
      rw [← hu]
      have g1 : mulO (.int (u * u)) (.int u) = _ := mul_ok (by omega) (by omega) (by omega) (by omega)
      have g2 : mulO (.int z) (.int (u * u * u + 1)) = _ := mul_ok (by omega) (by omega) (by omega) (by omega)
      simp [ne, sq u u0.1 u0.2, g1, g2, mod_ok, h1, r0, r1]
      exact ⟨_, _, ⟨rfl, rfl⟩, r0 _, r1 _, wp _ hc⟩
    · simp [ne, hn, mod_ok, h1, r0, r1]
      exact ⟨_, _, ⟨rfl, rfl⟩, r0 _, r1 _, wp _ hc⟩
theorem WP.mono {pa : Addr} {w : Pw} {m m' : Int} (h : WP pa w m) (h2 : m ≤ m') : WP pa w m' := by
  obtain ⟨ca, cells, t, ne, e, hc, t0, tm⟩ := h
  exact ⟨ca, cells, t, ne, e, hc, t0, by omega⟩
theorem rangeD_get {lo : Int} {n i : Nat} {d : PyData} (h : (rangeD lo n)[i]? = some d) : d = .int (lo + i) ∧ i < n := by
  have hi : i < n := by have := (List.getElem?_eq_some_iff.mp h).1; simpa [rangeD] using this
  simp [rangeD, hi] at h
  exact ⟨h.symm, hi⟩
theorem zT : ∃ T : Int, 0 < T ∧ T.natAbs.log2 < 4000 ∧ powO (.int 10) (.int 60) = some (.val (.int T)) := by
    obtain ⟨n, hn⟩ : ∃ n : Nat, n = 60 := ⟨_, rfl⟩
    have e : powO (.int 10) (.int 60) = some (.val (.int (10 ^ n))) := by
      rw [hn]
      exact pow_ok (by omega) (by omega) (by omega) (by omega)
    have h : (10 : Int) ^ n < 2 ^ 200 := by
      rw [hn]; decide +kernel
    have h2 : (0 : Int) < 10 ^ n := Int.pow_pos (by decide)
    refine ⟨_, h2, ?_, e⟩
    have := log_small (by omega) h
    omega
theorem zU {T : Int} (T0 : 0 < T) (T1 : T.natAbs.log2 < 4000) : ∃ U : Int, 0 < U ∧ powO (.int T) (.int 20) = some (.val (.int U)) := by
    refine ⟨T ^ (20 : Int).toNat, Int.pow_pos T0, ?_⟩
    rw [x_pow, if_pos ⟨by decide, (by decide : (20 : Int) ≤ 30000), T1⟩]
theorem z18 :  powO (.int 10) (.int 18) = some (.val (.int 1000000000000000000)) := by
    simp
theorem law_purse_ok : PurseOk 3 p_law_purse := by
  intro a ns hl
  obtain ⟨T, T0, T1, eT⟩ := zT
  obtain ⟨U, U0, eU⟩ := zU T0 T1
  have e18 := z18
  obtain ⟨s', e, ms, v, hm, hs⟩ := loopF_inv (b := bName 2) (p := b_law_purse_1) (ds := rangeD 0 ns.length) (s := ⟨[.raw (.ref a), .own (ns.map .int), .no], none⟩)
    (fun i s => ∃ (ms : List Int) (v : Sl), ms.length = ns.length ∧ s = ⟨[.raw (.ref a), .own (ms.map .int), v], none⟩) ⟨ns, .no, rfl, rfl⟩ (by
      rintro i d s hd ⟨ms, v, hm, rfl⟩
      obtain ⟨rfl, hi⟩ := rangeD_get hd
      have hi' : i < ms.length := by omega
      have ix : ixN ms.length (i : Int) = some i := by
        unfold ixN
        rw [if_pos (by omega), if_pos (by omega)]
        simp
      unfold b_law_purse_1
      by_cases hb : 1000000000000000000 ≤ (if ms[i] < 0 then -ms[i] else ms[i])
      · simp -implicitDefEqProofs [atI_nat, hi', hb, ix, -pow_ok, eT, eU, e18, mod_ok, U0]
        exact ⟨ms.set i (ms[i] % U), by simpa using hm, by simp [List.map_set]⟩
      · simp -implicitDefEqProofs [atI_nat, hi', hb, ix, -pow_ok, eT, eU, e18]
        exact hm)
  subst hs
  have lr : (rangeD 0 ns.length).length = ns.length := by simp [rangeD]
  have h62 : inB (ns.length : Int) := inB_of (by omega) (by omega)
  unfold p_law_purse
  by_cases h0 : ms = []
  · subst h0
    simp -implicitDefEqProofs [e, h62]
    exact ⟨[0], by simp⟩
  · simp -implicitDefEqProofs [e, h62, h0]
    omega

end DL

noncomputable section
namespace DL
open PySem L2
def c_law_mixed_1 : M Bool := fB (fOp (lift2 neO) (fVar 2) (fLst fNil))
def b_law_mixed_2 : DSt → Flow := fDrop (fApp 3 (fPopAt 2 (fUser F_law_draw (fCons (fVar 0) (fCons (fCall lenO (pCons (fVar 2) fNil)) fNil)))))
abbrev o_law_mixed_2 : DSt → Flow := whileF c_law_mixed_1 b_law_mixed_2 10000
def p_law_mixed : DSt → Flow := fseq (fSet 2 (fCall listO (pCons (fVar 1) fNil))) (fseq (fSet 3 (fLst fNil)) (fseq (whileF c_law_mixed_1 b_law_mixed_2 10000) (fRet (fVar 3))))
def F_law_mixed : List R → Pw → FRes := runF 4 2 p_law_mixed
def b_law_names_1 : DSt → Flow := fseq (fSet 5 (fLst (fCons (fC (.int 1)) (fCons (fOp (lift2 addO) (fC (.int 1)) (fUser F_law_draw (fCons (fVar 0) (fCons (fC (.int 3)) fNil)))) (fCons (fOp (lift2 addO) (fC (.int 1)) (fUser F_law_draw (fCons (fVar 0) (fCons (fOp (lift2 powO) (fC (.int 10)) (fC (.int 28))) fNil)))) fNil))))) (fseq (fSet 3 (fOp (lift2 addO) (fVar 3) (fOp (lift2 ixO) (fVar 5) (fOp (lift2 fdivO) (fUser F_law_draw (fCons (fVar 0) (fCons (fC (.int 6)) fNil))) (fC (.int 2)))))) (fDrop (fApp 2 (fVar 3))))
abbrev o_law_names_1 : List PyData → DSt → Flow := loopF (bName 4) b_law_names_1
def p_law_names : DSt → Flow := fseq (fSet 2 (fLst fNil)) (fseq (fSet 3 (fUn (lift1 negO) (fC (.int 1)))) (fseq (fFor (fRng1 (pCons (fVar 1) fNil)) (bName 4) b_law_names_1) (fRet (fVar 2))))
def F_law_names : List R → Pw → FRes := runF 6 2 p_law_names
/-! drawn lists -/
theorem erase_perm {α : Type} : ∀ {l : List α} {j : Nat} (h : j < l.length), (l[j] :: l.eraseIdx j).Perm l
  | a :: l, 0, _ => .refl _
  | a :: l, j + 1, h => by
    have h2 : j < l.length := by simpa using h
    have := erase_perm h2
    show (l[j] :: a :: l.eraseIdx j).Perm (a :: l)
    exact (List.Perm.swap a l[j] _).trans (this.cons a)
theorem mixed_ok {pa : Addr} {w : Pw} {m : Int} {ds : List PyData} (h : WP pa w m) (hm : m < 2 ^ 59) (hl : ds.length ≤ 5000) : ∃ es w', F_law_mixed [.raw (.ref pa), .val (.list ds)] w = .ok (.new es) w' ∧ es.Perm ds ∧ WP pa w' (m + 5000) := by
  obtain ⟨s', e, ⟨ls, fs, w', rfl, hp, k, hw, hk⟩, hc⟩ := whileF_inv (c := c_law_mixed_1) (p := b_law_mixed_2) (fun s => ∃ (ls fs : List PyData) (w' : Pw), s = ⟨[.raw (.ref pa), .val (.list ds), .own ls, .own fs], w'⟩ ∧ (fs ++ ls).Perm ds ∧ ∃ k : Nat, WP pa w' (m + k) ∧ k + ls.length = ds.length)
    (fun (s : DSt) => match s.d[2]? with | some (Sl.own ls) => ls.length | _ => 0) 10000 (s := ⟨[.raw (.ref pa), .val (.list ds), .own ds, .own []], w⟩) ⟨ds, [], w, rfl, .refl _, 0, by simpa using h, by simp⟩ (by show ds.length < 10000; omega) (by
      rintro s ⟨ls, fs, w', rfl, hp, k, hw, hk⟩
      unfold c_law_mixed_1 b_law_mixed_2
      cases hls : ls with
      | nil => exact .inr (by simp -implicitDefEqProofs)
      | cons a l =>
        have hlen : ls.length = l.length + 1 := by rw [hls]; rfl
        left
        obtain ⟨r, w2, e, r0, r1, hw2⟩ := draw_ok (n := (l.length : Int) + 1) hw (by omega) (by omega) (by omega)
        obtain ⟨j, rfl⟩ := Int.eq_ofNat_of_zero_le r0
        have hj : j < l.length + 1 := by omega
        have ix : ixN (l.length + 1) (j : Int) = some j := by
          unfold ixN
          rw [if_pos (by omega), if_pos (by omega)]
          simp
        obtain ⟨d, hd⟩ : ∃ d, (a :: l)[j]? = some d := ⟨_, List.getElem?_eq_getElem (by simpa using hj)⟩
        have hfs : ltS fs.length := size_lt (by
          have := hp.length_eq
          simp at this
          omega)
        have hW : inW (j : Int) := inW_of (by omega) (by omega)
        refine ⟨_, by simp -implicitDefEqProofs; rfl, _, by simp -implicitDefEqProofs [e, ix, hd, hW, hfs], ⟨(a :: l).eraseIdx j, fs ++ [d], w2, rfl, ?_, k + 1, ?_, ?_⟩, ?_⟩
        · have hj2 : j < (a :: l).length := by simpa using hj
          have ed : d = (a :: l)[j] := by
            rw [List.getElem?_eq_getElem hj2] at hd
            exact (Option.some.inj hd).symm
          have : ((a :: l)[j] :: (a :: l).eraseIdx j).Perm (a :: l) := erase_perm hj2
          rw [List.append_assoc, ed]
          rw [hls] at hp
          exact (List.Perm.append_left fs this).trans hp
        · have : m + ((k + 1 : Nat) : Int) = m + k + 1 := by omega
          rw [this]
          exact hw2
        · rw [List.length_eraseIdx]
          simp
          rw [if_pos (by omega)]
          omega
        · show ((a :: l).eraseIdx j).length < (a :: l).length
          rw [List.length_eraseIdx]
          simp
          rw [if_pos (by omega)]
          omega)
  have : ls = [] := by
    cases ls with
    | nil => rfl
    | cons a l =>
      exfalso
      unfold c_law_mixed_1 at hc
      simp at hc
  subst this
  refine ⟨fs, w', ?_, by simpa using hp, hw.mono (by omega)⟩
  unfold F_law_mixed p_law_mixed
  simp only [x_runF]
  simp -implicitDefEqProofs [e]
theorem mixedI_ok {pa : Addr} {w : Pw} {m : Int} {ns : List Int} (h : WP pa w m) (hm : m < 2 ^ 59) (hl : ns.length ≤ 5000) : ∃ (ms : List Int) (w' : Pw), F_law_mixed [.raw (.ref pa), .val (.list (ns.map .int))] w = .ok (.new (ms.map .int)) w' ∧ ms.Perm ns ∧ WP pa w' (m + 5000) := by
  obtain ⟨es, w', e, hp, hw⟩ := mixed_ok (ds := ns.map .int) h hm (by simpa using hl)
  obtain ⟨ms, rfl, hp2⟩ := perm_map_inv hp rfl
  exact ⟨ms, w', e, hp2, hw⟩
/-- rising from l on -/
theorem names_ok {pa : Addr} {w : Pw} {m : Int} {n : Nat} (h : WP pa w m) (hm : m < 2 ^ 59) (hn : n ≤ 1000) : ∃ (ns : List Int) (w' : Pw), F_law_names [.raw (.ref pa), .val (.int n)] w = .ok (.new (ns.map .int)) w' ∧ ns.length = n ∧ ns.Nodup ∧ (∀ x ∈ ns, 0 ≤ x) ∧ WP pa w' (m + 5000) := by
  obtain ⟨s', e, ns, last, w', v1, v2, rfl, h1, h2, h3, h4, h5, h6⟩ := loopF_map (b := bName 4) (p := b_law_names_1) (f := fun (k : Nat) => PyData.int (0 + (k : Int))) (l := List.range n) (s := ⟨[.raw (.ref pa), .val (.int n), .own [], .val (.int (-1)), .no, .no], w⟩)
    (fun i s => ∃ (ns : List Int) (last : Int) (w' : Pw) (v1 v2 : Sl), s = ⟨[.raw (.ref pa), .val (.int n), .own (ns.map .int), .val (.int last), v1, v2], w'⟩ ∧ ns.length = i ∧ ns.Nodup ∧ (∀ x ∈ ns, 0 ≤ x ∧ x ≤ last) ∧ -1 ≤ last ∧ (i : Int) ≤ n ∧ WP pa w' (m + 3 * i))
    ⟨[], -1, w, .no, .no, rfl, rfl, by simp, by simp, by decide, by omega, by simpa using h⟩ (by
      rintro i a s hi ⟨ns, last, w', v1, v2, rfl, h1, h2, h3, h4, h5, h6⟩
      have hin : i < n := by have := (List.getElem?_eq_some_iff.mp hi).1; simpa using this
      have ha : a = i := by simp [hin] at hi; exact hi.symm
      subst ha
      obtain ⟨r1, w1, e1, r10, r11, q1⟩ := draw_ok (n := 3) h6 (by omega) (by omega) (by omega)
      obtain ⟨r2, w2, e2, r20, r21, q2⟩ := draw_ok (n := 10000000000000000000000000000) q1 (by omega) (by omega) (by omega)
      obtain ⟨r3, w3, e3, r30, r31, q3⟩ := draw_ok (n := 6) q2 (by omega) (by omega) (by omega)
      have hlen : ltS ns.length := size_lt (by omega)
      obtain ⟨x, ex, hx⟩ : ∃ x : Int, atI [PyData.int 1, .int (1 + r1), .int (1 + r2)] (r3 / 2) = some (.int x) ∧ 1 ≤ x := by
        have : r3 / 2 = 0 ∨ r3 / 2 = 1 ∨ r3 / 2 = 2 := by omega
        rcases this with q | q | q <;> rw [q] <;> simp <;> omega
      unfold b_law_names_1
      refine ⟨_, _, by simp -implicitDefEqProofs; rfl, by simp -implicitDefEqProofs [e1, e2, e3, ex, hlen]; rfl, ns ++ [last + x], last + x, w3, _, _, by simp -implicitDefEqProofs; exact ⟨rfl, rfl⟩, ?_, ?_, ?_, ?_, ?_, ?_⟩
      · simp [h1]
      · rw [List.nodup_append]
        refine ⟨h2, by simp, ?_⟩
        intro a ha b hb
        simp at hb
        have := h3 a ha
        omega
      · intro y hy
        simp at hy
        rcases hy with hy | hy
        · have := h3 y hy; omega
        · omega
      · omega
      · omega
      · exact q3.mono (by omega))
  have hB : inB (n : Int) := inB_of (by omega) (by omega)
  simp at h1
  refine ⟨ns, w', ?_, h1, h2, fun x hx => (h3 x hx).1, h6.mono (by simp; omega)⟩
  unfold F_law_names p_law_names
  simp only [x_runF]
  have e' : loopF (bName 4) b_law_names_1 (rangeD 0 n) ⟨[.raw (.ref pa), .val (.int n), .own [], .val (.int (-1)), .no, .no], w⟩ = _ := e
  simp -implicitDefEqProofs [e', hB]

end DL

noncomputable section
namespace DL
open PySem L2
def p_is_number : DSt → Flow := fRet (fAndV (fIsi "int" (fVar 0)) (fV (fNot (fB (fIsi "bool" (fVar 0))))))
def F_is_number : List R → Pw → FRes := runF 1 1 p_is_number
def e_are_unlike_names_1 : M R := fAndV (fUser F_is_number (fCons (fVar 1) fNil)) (fOp (lift2 geO) (fVar 1) (fC (.int 0)))
abbrev l_are_unlike_names_1 : M R := fLc (fLstI (fVar 0)) (bName 1) fYes (e_are_unlike_names_1) [1]
def p_are_unlike_names : DSt → Flow := fseq (fIfS (fOr (fNot (fB (fIsi "list" (fVar 0)))) (fNot (fB (fCall allO (pCons (fLc (fLstI (fVar 0)) (bName 1) fYes (e_are_unlike_names_1) [1]) fNil))))) (fRet (fC (.bool false))) fnext) (fRet (fOp (lift2 eqO) (fLenSet (fVar 0)) (fCall lenO (pCons (fVar 0) fNil))))
def F_are_unlike_names : List R → Pw → FRes := runF 2 1 p_are_unlike_names
def p_is_ranking : DSt → Flow := fRet (fAndV (fUser F_are_unlike_names (fCons (fVar 0) fNil)) (fAndV (fOp (lift2 gtO) (fCall lenO (pCons (fVar 0) fNil)) (fC (.int 0))) (fOp (lift2 leO) (fCall lenO (pCons (fVar 0) fNil)) (fC (.int 10)))))
def F_is_ranking : List R → Pw → FRes := runF 1 1 p_is_ranking
def p_must_be_ranking : DSt → Flow := fIfS (fNot (fB (fUser F_is_ranking (fCons (fVar 0) fNil)))) (fRaise "NoRanking") fnext
def F_must_be_ranking : List R → Pw → FRes := runF 1 1 p_must_be_ranking
def p_is_ahead : DSt → Flow := fRet (fOp (lift2 ltO) (fIndex (fVar 0) (fVar 1)) (fIndex (fVar 0) (fVar 2)))
def F_is_ahead : List R → Pw → FRes := runF 3 3 p_is_ahead
def p_ahead : DSt → Flow := fseq (fDrop (fUser F_must_be_ranking (fCons (fVar 0) fNil))) (fseq (fIfS (fOr (fB (fOp (lift2 notInO) (fVar 1) (fVar 0))) (fOr (fB (fOp (lift2 notInO) (fVar 2) (fVar 0))) (fB (fOp (lift2 eqO) (fVar 1) (fVar 2))))) (fRaise "NoNames") fnext) (fRet (fUser F_is_ahead (fCons (fVar 0) (fCons (fVar 1) (fCons (fVar 2) fNil))))))
def F_ahead : List R → Pw → FRes := runF 3 3 p_ahead
def e_places_of_pairs_1 : M R := fTup (fCons (fVar 2) (fCons (fVar 3) fNil))
abbrev l_places_of_pairs_1 : M R := fLc (fRng2 (pCons (fOp (lift2 addO) (fVar 2) (fC (.int 1))) (pCons (fVar 0) fNil))) (bName 3) fYes (e_places_of_pairs_1) [3]
def b_places_of_pairs_2 : DSt → Flow := fSet 1 (fOp (lift2 addO) (fVar 1) (fLc (fRng2 (pCons (fOp (lift2 addO) (fVar 2) (fC (.int 1))) (pCons (fVar 0) fNil))) (bName 3) fYes (e_places_of_pairs_1) [3]))
abbrev o_places_of_pairs_2 : List PyData → DSt → Flow := loopF (bName 2) b_places_of_pairs_2
def p_places_of_pairs : DSt → Flow := fseq (fSet 1 (fLst fNil)) (fseq (fFor (fRng1 (pCons (fVar 0) fNil)) (bName 2) b_places_of_pairs_2) (fRet (fVar 1)))
def F_places_of_pairs : List R → Pw → FRes := runF 4 1 p_places_of_pairs
def e_pairs_of_1 : M R := fTup (fCons (fOp (lift2 ixO) (fVar 0) (fVar 1)) (fCons (fOp (lift2 ixO) (fVar 0) (fVar 2)) fNil))
abbrev l_pairs_of_1 : M R := fLc (fLstI (fUser F_places_of_pairs (fCons (fCall lenO (pCons (fVar 0) fNil)) fNil))) (bTup 2 (bCons (bName 1) (bCons (bName 2) bNil))) fYes (e_pairs_of_1) [1, 2]
def p_pairs_of : DSt → Flow := fRet (fLc (fLstI (fUser F_places_of_pairs (fCons (fCall lenO (pCons (fVar 0) fNil)) fNil))) (bTup 2 (bCons (bName 1) (bCons (bName 2) bNil))) fYes (e_pairs_of_1) [1, 2])
def F_pairs_of : List R → Pw → FRes := runF 3 1 p_pairs_of
def t_many_unlike_1 : M Bool := fNot (fB (fUser F_is_ahead (fCons (fVar 1) (fCons (fOp (lift2 ixO) (fVar 2) (fC (.int 0))) (fCons (fOp (lift2 ixO) (fVar 2) (fC (.int 1))) fNil)))))
def e_many_unlike_2 : M R := fVar 2
abbrev l_many_unlike_2 : M R := fLc (fLstI (fUser F_pairs_of (fCons (fVar 0) fNil))) (bName 2) (t_many_unlike_1) (e_many_unlike_2) [2]
def p_many_unlike : DSt → Flow := fRet (fCall lenO (pCons (fLc (fLstI (fUser F_pairs_of (fCons (fVar 0) fNil))) (bName 2) (t_many_unlike_1) (e_many_unlike_2) [2]) fNil))
def F_many_unlike : List R → Pw → FRes := runF 3 2 p_many_unlike
def b_must_be_alike_named_1 : DSt → Flow := fDrop (fUser F_must_be_ranking (fCons (fVar 1) fNil))
abbrev o_must_be_alike_named_1 : List PyData → DSt → Flow := loopF (bName 1) b_must_be_alike_named_1
def e_must_be_alike_named_2 : M R := fOp (lift2 eqO) (fCall sortedO (pCons (fVar 1) fNil)) (fCall sortedO (pCons (fOp (lift2 ixO) (fVar 0) (fC (.int 0))) fNil))
abbrev l_must_be_alike_named_2 : M R := fLc (fLstI (fVar 0)) (bName 1) fYes (e_must_be_alike_named_2) [1]
def p_must_be_alike_named : DSt → Flow := fseq (fFor (fLstI (fVar 0)) (bName 1) b_must_be_alike_named_1) (fIfS (fNot (fB (fCall allO (pCons (fLc (fLstI (fVar 0)) (bName 1) fYes (e_must_be_alike_named_2) [1]) fNil)))) (fRaise "NoFit") fnext)
def F_must_be_alike_named : List R → Pw → FRes := runF 2 1 p_must_be_alike_named
def p_unlike : DSt → Flow := fseq (fDrop (fUser F_must_be_alike_named (fCons (fLst (fCons (fVar 0) (fCons (fVar 1) fNil))) fNil))) (fRet (fUser F_many_unlike (fCons (fVar 0) (fCons (fVar 1) fNil))))
def F_unlike : List R → Pw → FRes := runF 2 2 p_unlike
def Rank (ns : List Int) : Prop := ns.Nodup ∧ (∀ x ∈ ns, 0 ≤ x) ∧ 0 < ns.length ∧ ns.length ≤ 10
theorem Rank.perm {ns ms : List Int} (h : Rank ns) (p : ms.Perm ns) : Rank ms := ⟨p.nodup_iff.mpr h.1, fun x hx => h.2.1 x (p.mem_iff.mp hx), by rw [p.length_eq]; exact h.2.2.1, by rw [p.length_eq]; exact h.2.2.2⟩
@[simp] theorem is_number_int {n : Int} {w : Pw} : F_is_number [.val (.int n)] w = .ok (.val (.bool true)) w := by
  unfold F_is_number p_is_number
  simp -implicitDefEqProofs [x_runF]
theorem unlike_names_ok {ns : List Int} {w : Pw} (h1 : ns.Nodup) (h2 : ∀ x ∈ ns, 0 ≤ x) (hl : ns.length ≤ 4000) : F_are_unlike_names [.val (.list (ns.map .int))] w = .ok (.val (.bool true)) w := by
  have e : fLc (fLstI (fVar 0)) (bName 1) fYes e_are_unlike_names_1 [1] ⟨[.val (.list (ns.map .int)), .no], w⟩ = .ok (.new (ns.map fun x => .bool (decide (0 ≤ x)))) ⟨[.val (.list (ns.map .int)), .no], w⟩ := by
    refine lc_all (fun a : Int => ⟨[.val (.list (ns.map .int)), .val (.int a)], w⟩) _ (f := .int) (l := ns) (by simp -implicitDefEqProofs) (by omega) rfl (fun a _ => by rfl) (fun a _ => by rfl) (fun a _ => ?_)
    unfold e_are_unlike_names_1
    simp -implicitDefEqProofs
  have e2 : (ns.map fun x : Int => decide (0 ≤ x)).all id = true := by
    simpa using h2
  have e3 : ns.length ≤ 4000 := hl
  have e4 := nub_len h1
  unfold F_are_unlike_names p_are_unlike_names
  simp only [x_runF]
  simp -implicitDefEqProofs [e, boolsD_map', e2, e3, e4]
theorem is_ranking_ok {ns : List Int} {w : Pw} (h : Rank ns) : F_is_ranking [.val (.list (ns.map .int))] w = .ok (.val (.bool true)) w := by
  obtain ⟨h1, h2, h3, h4⟩ := h
  unfold F_is_ranking p_is_ranking
  simp only [x_runF]
  have h4' : (ns.length : Int) ≤ 10 := by omega
  simp -implicitDefEqProofs [unlike_names_ok h1 h2 (by omega), h3, h4']
theorem must_ranking_ok {ns : List Int} {w : Pw} (h : Rank ns) : F_must_be_ranking [.val (.list (ns.map .int))] w = .ok (.val .none) w := by
  unfold F_must_be_ranking p_must_be_ranking
  simp only [x_runF]
  simp -implicitDefEqProofs [is_ranking_ok h]
theorem is_ahead_ok {ns : List Int} {a b : Int} {w : Pw} (ha : a ∈ ns) (hb : b ∈ ns) : F_is_ahead [.val (.list (ns.map .int)), .val (.int a), .val (.int b)] w = .ok (.val (.bool (decide (ns.idxOf a < ns.idxOf b)))) w := by
  unfold F_is_ahead p_is_ahead
  simp only [x_runF]
  simp -implicitDefEqProofs [idxO_mem ha, idxO_mem hb]
theorem ahead_ok {ns : List Int} {a b : Int} {w : Pw} (h : Rank ns) (ha : a ∈ ns) (hb : b ∈ ns) (hab : a ≠ b) : F_ahead [.val (.list (ns.map .int)), .val (.int a), .val (.int b)] w = .ok (.val (.bool (decide (ns.idxOf a < ns.idxOf b)))) w := by
  unfold F_ahead p_ahead
  simp only [x_runF]
  simp -implicitDefEqProofs [must_ranking_ok h, is_ahead_ok ha hb, ha, hb, hab]
/-! ### pairs of places -/
def places (n : Nat) : List (Nat × Nat) := (List.range n).flatMap fun k => (List.range (n - (k + 1))).map fun j => (k, k + 1 + j)
def plD (p : Nat × Nat) : PyData := .tuple [.int (p.1 : Int), .int (p.2 : Int)]
theorem places_lt {n : Nat} {p : Nat × Nat} (h : p ∈ places n) : p.1 < p.2 ∧ p.2 < n := by
  unfold places at h
  simp at h
  obtain ⟨k, hk, j, hj, rfl⟩ := h
  simp
  omega
theorem places_len {n : Nat} (h : n ≤ 10) : (places n).length = n * (n - 1) / 2 := by
  have : ∀ n : Fin 11, (places n.1).length = n.1 * (n.1 - 1) / 2 := by decide +kernel
  exact this ⟨n, by omega⟩
theorem places_of_ok {n : Nat} {w : Pw} (h : n ≤ 10) : F_places_of_pairs [.val (.int n)] w = .ok (.new ((places n).map plD)) w := by
  have hB : inB (n : Int) := inB_of (by omega) (by omega)
  have pre : ∀ i : Nat, i ≤ n → ((List.range i).flatMap fun k => (List.range (n - (k + 1))).map fun j => (k, k + 1 + j)).length ≤ 100 := by
    have : ∀ n : Fin 11, ∀ i : Fin 11, ((List.range i.1).flatMap fun k => (List.range (n.1 - (k + 1))).map fun j => (k, k + 1 + j)).length ≤ 100 := by decide +kernel
    exact fun i hi => this ⟨n, by omega⟩ ⟨i, by omega⟩
  obtain ⟨s', e, v, rfl⟩ := loopF_map (b := bName 2) (p := b_places_of_pairs_2) (f := fun (k : Nat) => PyData.int (0 + (k : Int))) (l := List.range n) (s := ⟨[.val (.int n), .own [], .no, .no], w⟩)
    (fun i s => ∃ v, s = ⟨[.val (.int n), .own (((List.range i).flatMap fun k => (List.range (n - (k + 1))).map fun j => (k, k + 1 + j)).map plD), v, .no], w⟩) ⟨.no, rfl⟩ (by
      rintro i a s hi ⟨v, rfl⟩
      have hin : i < n := by have := (List.getElem?_eq_some_iff.mp hi).1; simpa using this
      have ha : a = i := by simp [hin] at hi; exact hi.symm
      subst ha
      have hB1 : inB ((a : Int) + 1) := inB_of (by omega) (by omega)
      have et : ((n : Int) - ((a : Int) + 1)).toNat = n - (a + 1) := by omega
      obtain ⟨acc, hacc⟩ : ∃ acc, acc = ((List.range a).flatMap fun k => (List.range (n - (k + 1))).map fun j => (k, k + 1 + j)).map plD := ⟨_, rfl⟩
      rw [← hacc]
      have el : fLc (fRng2 (pCons (fOp (lift2 addO) (fVar 2) (fC (.int 1))) (pCons (fVar 0) fNil))) (bName 3) fYes e_places_of_pairs_1 [3] ⟨[.val (.int n), .own acc, .val (.int (a : Int)), .no], w⟩ = .ok (.new ((List.range (n - (a + 1))).map fun j => plD (a, a + 1 + j))) ⟨[.val (.int n), .own acc, .val (.int (a : Int)), .no], w⟩ := by
        refine lc_all (fun j : Nat => ⟨[.val (.int n), .own acc, .val (.int (a : Int)), .val (.int ((a : Int) + 1 + (j : Int)))], w⟩) _ (f := fun (k : Nat) => PyData.int ((a : Int) + 1 + (k : Int))) (l := List.range (n - (a + 1))) (by simp -implicitDefEqProofs [hB, hB1, et, rangeD]) (by simp; omega) rfl (fun a _ => by rfl) (fun a _ => by rfl) (fun j _ => ?_)
        unfold e_places_of_pairs_1
        simp -implicitDefEqProofs [plD]
      have hl : leS (acc.length + (n - (a + 1))) := size_le (by
        have := pre a (by omega)
        rw [hacc, List.length_map]
        omega)
      refine ⟨_, _, by simp -implicitDefEqProofs; rfl, by unfold b_places_of_pairs_2; simp -implicitDefEqProofs [el, hl]; rfl, .val (.int (a : Int)), ?_⟩
      rw [hacc, List.range_succ, List.flatMap_append, List.map_append]
      simp)
  unfold F_places_of_pairs p_places_of_pairs
  simp only [x_runF]
  have e' : loopF (bName 2) b_places_of_pairs_2 (rangeD 0 n) ⟨[.val (.int n), .own [], .no, .no], w⟩ = _ := e
  simp -implicitDefEqProofs [e', hB]
  rfl
/-- the pairs of a list, the earlier first -/
def pairsI (ns : List Int) : List (Int × Int) := (places ns.length).map fun p => (ns.getD p.1 0, ns.getD p.2 0)
def prD (p : Int × Int) : PyData := .tuple [.int p.1, .int p.2]
theorem pairs_of_ok {ns : List Int} {w : Pw} (h : ns.length ≤ 10) : F_pairs_of [.val (.list (ns.map .int))] w = .ok (.new ((pairsI ns).map prD)) w := by
  have e : fLc (fLstI (fUser F_places_of_pairs (fCons (fCall lenO (pCons (fVar 0) fNil)) fNil))) (bTup 2 (bCons (bName 1) (bCons (bName 2) bNil))) fYes e_pairs_of_1 [1, 2] ⟨[.val (.list (ns.map .int)), .no, .no], w⟩ = .ok (.new ((places ns.length).map fun p => prD (ns.getD p.1 0, ns.getD p.2 0))) ⟨[.val (.list (ns.map .int)), .no, .no], w⟩ := by
    refine lc_all (fun p : Nat × Nat => ⟨[.val (.list (ns.map .int)), .val (.int p.1), .val (.int p.2)], w⟩) _ (f := plD) (l := places ns.length) (by simp -implicitDefEqProofs [places_of_ok h]) (by rw [places_len h]; have : ns.length * (ns.length - 1) ≤ 10 * 9 := Nat.mul_le_mul h (by omega); omega) rfl (fun a _ => by simp -implicitDefEqProofs [plD]; rfl) (fun a _ => by rfl) (fun p hp => ?_)
    have := places_lt hp
    have h1 : atI (ns.map PyData.int) (p.1 : Int) = some (.int (ns.getD p.1 0)) := by
      rw [atI_nat]
      simp [List.getElem?_eq_getElem (by omega : p.1 < ns.length)]
    have h2 : atI (ns.map PyData.int) (p.2 : Int) = some (.int (ns.getD p.2 0)) := by
      rw [atI_nat]
      simp [List.getElem?_eq_getElem (by omega : p.2 < ns.length)]
    unfold e_pairs_of_1
    simp -implicitDefEqProofs [h1, h2, prD]
  unfold F_pairs_of p_pairs_of
  simp only [x_runF]
  simp -implicitDefEqProofs [e, pairsI]
theorem pairs_mem {ns : List Int} {p : Int × Int} (h : p ∈ pairsI ns) : p.1 ∈ ns ∧ p.2 ∈ ns := by
  unfold pairsI at h
  simp only [List.mem_map] at h
  obtain ⟨q, hq, rfl⟩ := h
  have := places_lt hq
  simp only [List.getD_eq_getElem?_getD, List.getElem?_eq_getElem (by omega : q.1 < ns.length), List.getElem?_eq_getElem (by omega : q.2 < ns.length)]
  exact ⟨List.getElem_mem _, List.getElem_mem _⟩
def manyI (one other : List Int) : Nat := ((pairsI one).filter fun p => !decide (other.idxOf p.1 < other.idxOf p.2)).length
theorem many_unlike_ok {one other : List Int} {w : Pw} (h : one.length ≤ 10) (hs : ∀ x ∈ one, x ∈ other) : F_many_unlike [.val (.list (one.map .int)), .val (.list (other.map .int))] w = .ok (.val (.int (manyI one other))) w := by
  have e : fLc (fLstI (fUser F_pairs_of (fCons (fVar 0) fNil))) (bName 2) t_many_unlike_1 e_many_unlike_2 [2] ⟨[.val (.list (one.map .int)), .val (.list (other.map .int)), .no], w⟩ = .ok (.new (((pairsI one).filter fun p => !decide (other.idxOf p.1 < other.idxOf p.2)).map prD)) ⟨[.val (.list (one.map .int)), .val (.list (other.map .int)), .no], w⟩ := by
    refine lc_gen (fun p : Int × Int => ⟨[.val (.list (one.map .int)), .val (.list (other.map .int)), .val (prD p)], w⟩) _ _ (f := prD) (l := pairsI one) (by simp -implicitDefEqProofs [pairs_of_ok h]) (by
      show (pairsI one).length ≤ 100000
      unfold pairsI
      rw [List.length_map, places_len h]
      have : one.length * (one.length - 1) ≤ 10 * 9 := Nat.mul_le_mul h (by omega)
      omega) rfl (fun a _ => by rfl) (fun a _ => by rfl) (fun p hp => ?_) (fun p hp _ => ?_)
    · obtain ⟨m1, m2⟩ := pairs_mem hp
      unfold t_many_unlike_1
      simp -implicitDefEqProofs [prD, is_ahead_ok (hs _ m1) (hs _ m2)]
    · unfold e_many_unlike_2
      simp -implicitDefEqProofs
  unfold F_many_unlike p_many_unlike
  simp only [x_runF]
  simp -implicitDefEqProofs [e, manyI]
theorem sortI_perm_eq {a b : List Int} (h : a.Perm b) : sortI a = sortI b := sortI_eq ((sortI_perm a).trans h) (sortI_le a)
theorem alike_ok {a b : List Int} {w : Pw} (ha : Rank a) (hb : Rank b) (hp : b.Perm a) : F_must_be_alike_named [.val (.list [.list (a.map .int), .list (b.map .int)])] w = .ok (.val .none) w := by
  obtain ⟨s', e, v, hv, rfl⟩ := loopF_map (b := bName 1) (p := b_must_be_alike_named_1) (f := fun x : List Int => PyData.list (x.map .int)) (l := [a, b]) (s := ⟨[.val (.list [.list (a.map .int), .list (b.map .int)]), .no], w⟩)
    (fun i s => ∃ v, (∀ ds, v ≠ Sl.own ds) ∧ s = ⟨[.val (.list [.list (a.map .int), .list (b.map .int)]), v], w⟩) ⟨.no, by simp, rfl⟩ (by
      rintro i x s hi ⟨v, _, rfl⟩
      have hx : Rank x := by
        have := List.mem_of_getElem? hi
        simp at this
        rcases this with rfl | rfl
        · exact ha
        · exact hb
      exact ⟨_, _, by simp -implicitDefEqProofs; rfl, by unfold b_must_be_alike_named_1; simp -implicitDefEqProofs [must_ranking_ok hx]; rfl, _, by simp, rfl⟩)
  have el : fLc (fLstI (fVar 0)) (bName 1) fYes e_must_be_alike_named_2 [1] ⟨[.val (.list [.list (a.map .int), .list (b.map .int)]), v], w⟩ = .ok (.new ([a, b].map fun x => .bool (decide (sortI x = sortI a)))) ⟨[.val (.list [.list (a.map .int), .list (b.map .int)]), v], w⟩ := by
    refine lc_all (fun x : List Int => ⟨[.val (.list [.list (a.map .int), .list (b.map .int)]), .val (.list (x.map .int))], w⟩) _ (f := fun x : List Int => PyData.list (x.map .int)) (l := [a, b]) (by simp -implicitDefEqProofs) (by simp) (by cases v <;> first | rfl | exact absurd rfl (hv _)) (fun a _ => by rfl) (fun a _ => by rfl) (fun x _ => ?_)
    unfold e_must_be_alike_named_2
    simp -implicitDefEqProofs
  unfold F_must_be_alike_named p_must_be_alike_named
  simp only [x_runF]
  simp -implicitDefEqProofs at e
  simp -implicitDefEqProofs [e, el, boolsD, sortI_perm_eq hp]
theorem unlike_ok {a b : List Int} {w : Pw} (ha : Rank a) (hp : b.Perm a) : F_unlike [.val (.list (a.map .int)), .val (.list (b.map .int))] w = .ok (.val (.int (manyI a b))) w := by
  unfold F_unlike p_unlike
  simp only [x_runF]
  simp -implicitDefEqProofs [alike_ok ha (ha.perm hp) hp, many_unlike_ok ha.2.2.2 fun x hx => hp.mem_iff.mpr hx]

end DL

noncomputable section
namespace DL
open PySem L2
def p_law_many : DSt → Flow := fRet (fOp (lift2 addO) (fC (.int 1)) (fUser F_law_draw (fCons (fVar 0) (fCons (fOp (lift2 ixO) (fLst (fCons (fC (.int 4)) (fCons (fC (.int 7)) (fCons (fC (.int 10)) fNil)))) (fUser F_law_draw (fCons (fVar 0) (fCons (fC (.int 3)) fNil)))) fNil))))
def F_law_many : List R → Pw → FRes := runF 1 1 p_law_many
theorem cutI_eq {α : Type} {xs : List α} {k : Nat} : cutI xs none (some (k : Int)) ++ (cutI xs (some (k : Int)) (some ((k : Int) + 2))).reverse ++ cutI xs (some ((k : Int) + 2)) none = xs.take k ++ ((xs.take (k + 2)).drop k).reverse ++ xs.drop (k + 2) := by
  have e : (k : Int) + 2 = ((k + 2 : Nat) : Int) := by omega
  rw [e, cut_to, cut_mid, cut_from]
theorem swap_perm {α : Type} (xs : List α) (k : Nat) : (xs.take k ++ ((xs.take (k + 2)).drop k).reverse ++ xs.drop (k + 2)).Perm xs := by
  have h1 : (xs.take k ++ ((xs.take (k + 2)).drop k).reverse ++ xs.drop (k + 2)).Perm (xs.take k ++ ((xs.take (k + 2)).drop k) ++ xs.drop (k + 2)) := ((List.Perm.refl _).append (List.reverse_perm _)).append (List.Perm.refl _)
  have h2 : xs.take k ++ ((xs.take (k + 2)).drop k) = xs.take (k + 2) := by
    have := List.take_append_drop k (xs.take (k + 2))
    rw [List.take_take, Nat.min_eq_left (by omega)] at this
    exact this
  rw [h2, List.take_append_drop] at h1
  exact h1
theorem many_ok {pa : Addr} {w : Pw} {m : Int} (h : WP pa w m) (hm : m < 2 ^ 59) : ∃ (n : Nat) (w' : Pw), F_law_many [.raw (.ref pa)] w = .ok (.val (.int n)) w' ∧ 1 ≤ n ∧ n ≤ 10 ∧ WP pa w' (m + 5000) := by
  obtain ⟨r1, w1, e1, r10, r11, q1⟩ := draw_ok (n := 3) h (by omega) (by omega) (by omega)
  obtain ⟨x, ex, hx, hx2⟩ : ∃ x : Int, atI [PyData.int 4, .int 7, .int 10] r1 = some (.int x) ∧ 1 ≤ x ∧ x ≤ 10 := by
    have : r1 = 0 ∨ r1 = 1 ∨ r1 = 2 := by omega
    rcases this with q | q | q <;> rw [q] <;> simp
  obtain ⟨r2, w2, e2, r20, r21, q2⟩ := draw_ok (n := x) q1 (by omega) (by omega) (by omega)
  refine ⟨(1 + r2).toNat, w2, ?_, by omega, by omega, q2.mono (by omega)⟩
  have e3 : (((1 + r2).toNat : Nat) : Int) = 1 + r2 := by omega
  rw [e3]
  unfold F_law_many p_law_many
  simp only [x_runF]
  simp -implicitDefEqProofs [e1, ex, e2]
def cntP (one other : List Int) (a b : Int) : Bool := decide (one.idxOf a < one.idxOf b ∧ other.idxOf b < other.idxOf a)
def cnt2 (one other : List Int) (a : Int) : Nat := (one.filter (cntP one other a)).length
theorem nodup_idx {ns : List Int} (h : ns.Nodup) {i : Nat} (hi : i < ns.length) : ns.idxOf (ns.getD i 0) = i := by
  have e : ns.getD i 0 = ns[i] := by simp [List.getD_eq_getElem?_getD, List.getElem?_eq_getElem hi]
  rw [e]
  exact h.idxOf_getElem i hi
theorem map_getD {ns : List Int} : ns = (List.range ns.length).map fun i => ns.getD i 0 := by
  apply List.ext_getElem
  · simp
  · intro i h1 h2
    simp [List.getD_eq_getElem?_getD, List.getElem?_eq_getElem h1]
theorem range_split {n k : Nat} (h : k < n) : List.range n = List.range (k + 1) ++ (List.range (n - (k + 1))).map fun j => k + 1 + j := by
  have e : n = (k + 1) + (n - (k + 1)) := by omega
  rw [e, List.range_add]
  simp
theorem counts {one other : List Int} (h : one.Nodup) (hp : other.Perm one) : manyI one other = (one.map (cnt2 one other)).sum := by
  have hs : ∀ x ∈ one, x ∈ other := fun x hx => hp.mem_iff.mpr hx
  have ho : other.Nodup := hp.nodup_iff.mpr h
  have key : ∀ k : Nat, k < one.length → (((List.range (one.length - (k + 1))).map fun j => (k, k + 1 + j)).map fun p : Nat × Nat => (one.getD p.1 0, one.getD p.2 0)).countP (fun p => !decide (other.idxOf p.1 < other.idxOf p.2)) = cnt2 one other (one.getD k 0) := by
    intro k hk
    unfold cnt2
    rw [← List.countP_eq_length_filter]
    obtain ⟨f, hf⟩ : ∃ f : Int → Bool, f = cntP one other (one.getD k 0) := ⟨_, rfl⟩
    rw [← hf]
    have e1 : one.countP f = ((List.range one.length).map fun i => one.getD i 0).countP f := by rw [← map_getD]
    rw [e1, range_split hk, List.map_append, List.countP_append, List.map_map, List.map_map, List.countP_map, List.countP_map, List.countP_map]
    have z : List.countP (f ∘ fun i => one.getD i 0) (List.range (k + 1)) = 0 := by
      rw [List.countP_eq_zero]
      intro i hi
      have hi : i < k + 1 := by simpa using hi
      have e2 := nodup_idx h (i := i) (by omega)
      have e3 := nodup_idx h (i := k) hk
      rw [hf]
      simp only [Function.comp, cntP, e2, e3]
      simp
      omega
    rw [z, Nat.zero_add]
    apply List.countP_congr
    intro j hj
    have hj : j < one.length - (k + 1) := by simpa using hj
    have e2 := nodup_idx h (i := k + 1 + j) (by omega)
    have e3 := nodup_idx h (i := k) hk
    have m1 : one.getD k 0 ∈ one := by
      simp only [List.getD_eq_getElem?_getD, List.getElem?_eq_getElem hk]
      exact List.getElem_mem _
    have m2 : one.getD (k + 1 + j) 0 ∈ one := by
      simp only [List.getD_eq_getElem?_getD, List.getElem?_eq_getElem (by omega : k + 1 + j < one.length)]
      exact List.getElem_mem _
    have ne : other.idxOf (one.getD k 0) ≠ other.idxOf (one.getD (k + 1 + j) 0) := by
      intro e
      have e4 := List.getElem_idxOf (List.idxOf_lt_length_iff.mpr (hs _ m1))
      have e5 := List.getElem_idxOf (List.idxOf_lt_length_iff.mpr (hs _ m2))
      have : one.getD k 0 = one.getD (k + 1 + j) 0 := by
        rw [← e4, ← e5]
        congr 1
      have := congrArg one.idxOf this
      rw [e2, e3] at this
      omega
    rw [hf]
    simp only [Function.comp, cntP, e2, e3, Bool.not_eq_true', decide_eq_false_iff_not, decide_eq_true_eq]
    omega
  unfold manyI pairsI places
  rw [← List.countP_eq_length_filter, List.map_flatMap, List.countP_flatMap]
  have : one.map (cnt2 one other) = (List.range one.length).map fun k => cnt2 one other (one.getD k 0) := by
    have e := congrArg (List.map (cnt2 one other)) (map_getD (ns := one))
    rw [List.map_map] at e
    exact e
  rw [this]
  congr 1
  apply List.map_congr_left
  intro k hk
  exact key k (by simpa using hk)

/-! ### twofold sums -/
theorem sum_map_le {α : Type} {l : List α} {f g : α → Nat} (h : ∀ x ∈ l, f x ≤ g x) : (l.map f).sum ≤ (l.map g).sum := by
  induction l with
  | nil => simp
  | cons a l ih =>
    have h1 := h a List.mem_cons_self
    have h2 := ih fun x hx => h x (List.mem_cons_of_mem _ hx)
    simp only [List.map_cons, List.sum_cons]
    omega
theorem sum_map_eq {α : Type} {l : List α} {f g : α → Nat} (h : ∀ x ∈ l, f x ≤ g x) : (l.map f).sum = (l.map g).sum ↔ ∀ x ∈ l, f x = g x := by
  induction l with
  | nil => simp
  | cons a l ih =>
    have h1 := h a List.mem_cons_self
    have h2 := sum_map_le fun x hx => h x (List.mem_cons_of_mem _ hx)
    have h3 := ih fun x hx => h x (List.mem_cons_of_mem _ hx)
    simp only [List.map_cons, List.sum_cons, List.forall_mem_cons, ← h3]
    omega
theorem sum_map_add {α : Type} {l : List α} {f g : α → Nat} : (l.map fun x => f x + g x).sum = (l.map f).sum + (l.map g).sum := by
  induction l with
  | nil => simp
  | cons a l ih =>
    simp only [List.map_cons, List.sum_cons, ih]
    omega
theorem sum_map_congr {α : Type} {l : List α} {f g : α → Nat} (h : ∀ x ∈ l, f x = g x) : (l.map f).sum = (l.map g).sum := by
  rw [List.map_congr_left h]
theorem sum_swap {α β : Type} {l : List α} {m : List β} {f : α → β → Nat} : (l.map fun x => (m.map (f x)).sum).sum = (m.map fun y => (l.map fun x => f x y).sum).sum := by
  induction l with
  | nil =>
    induction m with
    | nil => rfl
    | cons _ _ ih => simpa using ih
  | cons a l ih =>
    simp only [List.map_cons, List.sum_cons, ih, sum_map_add]
theorem sum_perm {α : Type} {l m : List α} {f : α → Nat} (h : l.Perm m) : (l.map f).sum = (m.map f).sum := by
  induction h with
  | nil => rfl
  | cons x _ ih => simp [ih]
  | swap x y l => simp only [List.map_cons, List.sum_cons]; omega
  | trans _ _ h1 h2 => rw [h1, h2]
def dbl (l : List Int) (f : Int → Int → Nat) : Nat := (l.map fun x => (l.map (f x)).sum).sum
theorem dbl_perm {l m : List Int} {f : Int → Int → Nat} (h : l.Perm m) : dbl l f = dbl m f := by
  unfold dbl
  rw [sum_perm h]
  exact sum_map_congr fun x _ => sum_perm h
theorem dbl_le {l : List Int} {f g : Int → Int → Nat} (h : ∀ x ∈ l, ∀ y ∈ l, f x y ≤ g x y) : dbl l f ≤ dbl l g := sum_map_le fun x hx => sum_map_le (h x hx)
theorem dbl_eq {l : List Int} {f g : Int → Int → Nat} (h : ∀ x ∈ l, ∀ y ∈ l, f x y ≤ g x y) : dbl l f = dbl l g ↔ ∀ x ∈ l, ∀ y ∈ l, f x y = g x y := by
  unfold dbl
  rw [sum_map_eq fun x hx => sum_map_le (h x hx)]
  exact ⟨fun k x hx => (sum_map_eq (h x hx)).mp (k x hx), fun k x hx => (sum_map_eq (h x hx)).mpr (k x hx)⟩
theorem dbl_congr {l : List Int} {f g : Int → Int → Nat} (h : ∀ x ∈ l, ∀ y ∈ l, f x y = g x y) : dbl l f = dbl l g := sum_map_congr fun x hx => sum_map_congr (h x hx)
theorem dbl_add {l : List Int} {f g : Int → Int → Nat} : dbl l (fun x y => f x y + g x y) = dbl l f + dbl l g := by
  unfold dbl
  rw [← sum_map_add]
  exact sum_map_congr fun x _ => sum_map_add
theorem dbl_swap {l : List Int} {f : Int → Int → Nat} : dbl l (fun x y => f y x) = dbl l f := by
  unfold dbl
  exact sum_swap (f := fun x y => f y x)
/-- x stands ahead of y -/
def ah (r : List Int) (x y : Int) : Bool := decide (r.idxOf x < r.idxOf y)
theorem idx_inj {r : List Int} {x y : Int} (hx : x ∈ r) (hy : y ∈ r) (h : r.idxOf x = r.idxOf y) : x = y := by
  have e4 := List.getElem_idxOf (List.idxOf_lt_length_iff.mpr hx)
  have e5 := List.getElem_idxOf (List.idxOf_lt_length_iff.mpr hy)
  rw [← e4, ← e5]
  congr 1
def uq (a b : List Int) (x y : Int) : Nat := if ah a x y = ah b x y then 0 else 1
theorem filter_sum {l : List Int} {p : Int → Bool} : (l.filter p).length = (l.map fun y => if p y = true then 1 else 0).sum := by
  induction l with
  | nil => rfl
  | cons a l ih =>
    cases h : p a <;> simp [h, ih] <;> omega
theorem many_dbl {a b : List Int} (ha : a.Nodup) (hp : b.Perm a) : 2 * manyI a b = dbl a (uq a b) := by
  have e1 : manyI a b = dbl a fun x y => if cntP a b x y = true then 1 else 0 := by
    rw [counts ha hp]
    unfold dbl
    exact sum_map_congr fun x _ => filter_sum
  have e2 : dbl a (uq a b) = dbl a fun x y => (if cntP a b x y = true then 1 else 0) + (if cntP a b y x = true then 1 else 0) := by
    refine dbl_congr fun x hx y hy => ?_
    unfold uq ah cntP
    by_cases e : x = y
    · subst e
      simp
    · have n1 : a.idxOf x ≠ a.idxOf y := fun h => e (idx_inj hx hy h)
      have n2 : b.idxOf x ≠ b.idxOf y := fun h => e (idx_inj (hp.mem_iff.mpr hx) (hp.mem_iff.mpr hy) h)
      rcases Nat.lt_or_gt_of_ne n1 with h1 | h1 <;> rcases Nat.lt_or_gt_of_ne n2 with h2 | h2 <;>
        simp [h1, h2, Nat.not_lt_of_gt h1, Nat.not_lt_of_gt h2]
  rw [e2, dbl_add, dbl_swap (f := fun x y => if cntP a b x y = true then 1 else 0), ← e1]
  omega
theorem tri_le {a m b : List Int} (ha : a.Nodup) (hm : m.Perm a) (hb : b.Perm a) : manyI a b ≤ manyI a m + manyI m b ∧ (manyI a m + manyI m b = manyI a b ↔ ∀ x ∈ a, ∀ y ∈ a, ah a x y = ah b x y → ah a x y = ah m x y) := by
  have e1 := many_dbl ha hb
  have e2 := many_dbl ha hm
  have e3 := many_dbl (hm.nodup_iff.mpr ha) (hb.trans hm.symm)
  rw [dbl_perm hm] at e3
  have pw : ∀ x ∈ a, ∀ y ∈ a, uq a b x y ≤ uq a m x y + uq m b x y := fun x _ y _ => by
    unfold uq
    cases ah a x y <;> cases ah b x y <;> cases ah m x y <;> simp
  have l1 := dbl_le pw
  have l2 := dbl_eq pw
  rw [dbl_add] at l1 l2
  refine ⟨by omega, ?_⟩
  have : manyI a m + manyI m b = manyI a b ↔ dbl a (uq a b) = dbl a (uq a m) + dbl a (uq m b) := by omega
  rw [this, l2]
  constructor
  · intro h x hx y hy e
    have := h x hx y hy
    unfold uq at this
    revert this e
    cases ah a x y <;> cases ah b x y <;> cases ah m x y <;> simp
  · intro h x hx y hy
    have := h x hx y hy
    unfold uq
    revert this
    cases ah a x y <;> cases ah b x y <;> cases ah m x y <;> simp
theorem pairs_iff {ns : List Int} (h : ns.Nodup) {p : Int × Int} : p ∈ pairsI ns ↔ p.1 ∈ ns ∧ p.2 ∈ ns ∧ ns.idxOf p.1 < ns.idxOf p.2 := by
  constructor
  · intro hp
    obtain ⟨m1, m2⟩ := pairs_mem hp
    refine ⟨m1, m2, ?_⟩
    unfold pairsI at hp
    simp only [List.mem_map] at hp
    obtain ⟨q, hq, rfl⟩ := hp
    have := places_lt hq
    simp only [nodup_idx h (by omega : q.1 < ns.length), nodup_idx h (by omega : q.2 < ns.length)]
    omega
  · rintro ⟨m1, m2, h3⟩
    have l2 := List.idxOf_lt_length_iff.mpr m2
    unfold pairsI
    rw [List.mem_map]
    refine ⟨(ns.idxOf p.1, ns.idxOf p.2), ?_, ?_⟩
    · unfold places
      simp only [List.mem_flatMap, List.mem_map, List.mem_range]
      exact ⟨ns.idxOf p.1, by omega, ns.idxOf p.2 - (ns.idxOf p.1 + 1), by omega, by simp; omega⟩
    · have e1 := List.getElem_idxOf (List.idxOf_lt_length_iff.mpr m1)
      have e2 := List.getElem_idxOf l2
      simp only [List.getD_eq_getElem?_getD, List.getElem?_eq_getElem (List.idxOf_lt_length_iff.mpr m1), List.getElem?_eq_getElem l2, e1, e2]
      rfl

end DL

noncomputable section
namespace DL
open PySem L2
def p_law_mix : DSt → Flow := fseq (fSet 2 (fOp (lift2 modO) (fOp (lift2 mulO) (fOp (lift2 addO) (fOp (lift2 addO) (fOp (lift2 mulO) (fVar 0) (fVar 0)) (fOp (lift2 mulO) (fVar 1) (fVar 0))) (fOp (lift2 mulO) (fOp (lift2 mulO) (fC (.int 7)) (fVar 1)) (fVar 1))) (fC (.int 1103515245))) (fC (.int 2147483629)))) (fRet (fOp (lift2 modO) (fOp (lift2 mulO) (fVar 2) (fVar 2)) (fC (.int 2147483587))))
def F_law_mix : List R → Pw → FRes := runF 3 2 p_law_mix
def p_law_left : DSt → Flow := fseq (fIfS (fB (fOp (lift2 ltO) (fVar 0) (fOp (lift2 powO) (fC (.int 10)) (fC (.int 18))))) (fRet (fLst (fCons (fOp (lift2 modO) (fVar 0) (fC (.int 2147483629))) (fCons (fC (.int 0)) (fCons (fC (.int 0)) fNil))))) fnext) (fRet (fLst (fCons (fOp (lift2 modO) (fOp (lift2 subO) (fVar 0) (fOp (lift2 powO) (fC (.int 10)) (fC (.int 18)))) (fOp (lift2 powO) (fOp (lift2 powO) (fOp (lift2 powO) (fC (.int 10)) (fC (.int 60))) (fC (.int 20))) (fC (.int 5)))) (fCons (fC (.int 1)) (fCons (fC (.int 0)) fNil)))))
def F_law_left : List R → Pw → FRes := runF 1 1 p_law_left
def p_law_draw_v3 : DSt → Flow := fseq (fSetC 0 (fOp (lift2 addO) (fIxC 0 (fC (.int 2))) (fC (.int 1))) (fC (.int 2))) (fseq (fIfS (fB (fOp (lift2 eqO) (fIxC 0 (fC (.int 1))) (fC (.int 0)))) (fseq (fSet 2 (fUser F_law_mix (fCons (fIxC 0 (fC (.int 0))) (fCons (fIxC 0 (fC (.int 2))) fNil)))) (fseq (fIfS (fB (fOp (lift2 gtO) (fVar 1) (fOp (lift2 powO) (fC (.int 10)) (fC (.int 9))))) (fRet (fOp (lift2 modO) (fOp (lift2 mulO) (fVar 2) (fOp (lift2 addO) (fOp (lift2 powO) (fUser F_law_mix (fCons (fIxC 0 (fC (.int 0))) (fCons (fOp (lift2 addO) (fIxC 0 (fC (.int 2))) (fC (.int 500))) fNil))) (fC (.int 3))) (fC (.int 1)))) (fVar 1))) fnext) (fRet (fOp (lift2 modO) (fOp (lift2 modO) (fOp (lift2 mulO) (fVar 2) (fOp (lift2 addO) (fVar 2) (fC (.int 2)))) (fC (.int 2147483579))) (fVar 1))))) fnext) (fseq (fSet 3 (fOp (lift2 modO) (fIxC 0 (fC (.int 0))) (fVar 1))) (fseq (fSetC 0 (fOp (lift2 fdivO) (fIxC 0 (fC (.int 0))) (fVar 1)) (fC (.int 0))) (fRet (fVar 3)))))
def F_law_draw_v3 : List R → Pw → FRes := runF 4 2 p_law_draw_v3
/-! family C: the list of numbers drawn from -/
def LP (pa : Addr) (w : Pw) (m : Int) : Prop := ∃ n g t : Int, w = some (pa, pa, [n, g, t], 0) ∧ 0 ≤ n ∧ (g = 0 → n < 2147483629) ∧ 0 ≤ t ∧ t ≤ m
theorem LP.mono {pa : Addr} {w : Pw} {m m' : Int} (h : LP pa w m) (h2 : m ≤ m') : LP pa w m' := by
  obtain ⟨n, g, t, e, h1, h3, h4, h5⟩ := h
  exact ⟨n, g, t, e, h1, h3, h4, by omega⟩
theorem mul_nn {a b A B : Int} (h0 : 0 ≤ a) (h1 : a < A) (h2 : 0 ≤ b) (h3 : b < B) : 0 ≤ a * b ∧ a * b < A * B := by
  have x1 := Int.mul_nonneg h0 h2
  have x2 : a * b ≤ a * B := Int.mul_le_mul_of_nonneg_left (by omega) h0
  have x3 : a * B < A * B := Int.mul_lt_mul_of_pos_right h1 (by omega)
  exact ⟨x1, by omega⟩
theorem mul_g {a b A B : Int} (h0 : 0 ≤ a) (h1 : a < A) (h2 : 0 ≤ b) (h3 : b < B) (hA : A ≤ 2 ^ 200) (hB : B ≤ 2 ^ 200) : ∃ c, mulO (.int a) (.int b) = some (.val (.int c)) ∧ 0 ≤ c ∧ c < A * B := by
  obtain ⟨x1, x2⟩ := mul_nn h0 h1 h2 h3
  exact ⟨a * b, mul_ok (by omega) (by omega) (by omega) (by omega), x1, x2⟩
theorem mix_ok {n k : Int} {w : Pw} (n0 : 0 ≤ n) (n1 : n < 2147483648) (k0 : 0 ≤ k) (k1 : k < 1099511627776) : ∃ r, F_law_mix [.val (.int (n)), .val (.int (k))] w = .ok (.val (.int (r))) w ∧ 0 ≤ r ∧ r < 2147483587 := by
  obtain ⟨a, ea, a0, a1⟩ := mul_g n0 n1 n0 n1 (by omega) (by omega)
  obtain ⟨b, eb, b0, b1⟩ := mul_g k0 k1 n0 n1 (by omega) (by omega)
  obtain ⟨c, ec, c0, c1⟩ := mul_g (a := 7) (A := 8) (by omega) (by omega) k0 k1 (by omega) (by omega)
  obtain ⟨d, ed, d0, d1⟩ := mul_g c0 c1 k0 k1 (by omega) (by omega)
  obtain ⟨x, ex, x0, x1⟩ := mul_g (a := a + b + d) (b := 1103515245) (A := 2 ^ 100) (B := 2 ^ 31) (by omega) (by omega) (by omega) (by omega) (by omega) (by omega)
  have y0 := Int.emod_nonneg x (by omega : (2147483629 : Int) ≠ 0)
  have y1 := Int.emod_lt_of_pos x (by omega : (0 : Int) < 2147483629)
  obtain ⟨y, hy⟩ : ∃ y, y = x % 2147483629 := ⟨_, rfl⟩
  rw [← hy] at y0 y1
  obtain ⟨z, ez, z0, z1⟩ := mul_g y0 y1 y0 y1 (by omega) (by omega)
  have r0 := Int.emod_nonneg z (by omega : (2147483587 : Int) ≠ 0)
  have r1 := Int.emod_lt_of_pos z (by omega : (0 : Int) < 2147483587)
  refine ⟨z % 2147483587, ?_, r0, r1⟩
  unfold F_law_mix p_law_mix
  simp only [x_runF]
  simp -implicitDefEqProofs [ea, eb, ec, ed, ex, ← hy, ez, mod_ok]
theorem big_pow : ∃ A : Int, 0 < A ∧ ∃ T U, powO (.int 10) (.int 60) = some (.val (.int T)) ∧ powO (.int T) (.int 20) = some (.val (.int U)) ∧ powO (.int U) (.int 5) = some (.val (.int A)) := by
  obtain ⟨t, e, t0, t1⟩ : ∃ t : Nat, powO (.int 10) (.int 60) = some (.val (.int (t : Int))) ∧ 0 < t ∧ t < 2 ^ 200 := by
    obtain ⟨n, hn⟩ : ∃ n : Nat, n = 60 := ⟨_, rfl⟩
    refine ⟨10 ^ n, ?_, Nat.pow_pos (by decide), by rw [hn]; decide +kernel⟩
    have e : powO (.int 10) (.int 60) = some (.val (.int (10 ^ n))) := by
      rw [hn]
      exact pow_ok (by omega) (by omega) (by omega) (by omega)
    rw [e]
    congr 3
  have u0 : 0 < t ^ 20 := Nat.pow_pos t0
  have u1 : t ^ 20 < 2 ^ 4000 := by
    have := Nat.pow_lt_pow_left t1 (by decide : (20 : Nat) ≠ 0)
    rwa [← Nat.pow_mul] at this
  have lt : lgP (t : Int) := by
    unfold lgP
    rw [Int.natAbs_natCast]
    have := (Nat.log2_lt (n := t) (k := 200) (by omega)).mpr t1
    omega
  have e2 : powO (.int (t : Int)) (.int 20) = some (.val (.int ((t ^ 20 : Nat) : Int))) := by
    rw [x_pow, if_pos ⟨by decide, by unfold leP; decide, lt⟩]
    congr 3
  obtain ⟨u, hu⟩ : ∃ u, u = t ^ 20 := ⟨_, rfl⟩
  rw [← hu] at u0 u1 e2
  have lu : lgP (u : Int) := by
    unfold lgP
    rw [Int.natAbs_natCast]
    exact (Nat.log2_lt (n := u) (k := 4000) (by omega)).mpr u1
  have e3 : powO (.int (u : Int)) (.int 5) = some (.val (.int ((u : Int) ^ (5 : Int).toNat))) := by
    rw [x_pow, if_pos ⟨by decide, by unfold leP; decide, lu⟩]
  exact ⟨_, Int.pow_pos (by omega), _, _, e, e2, e3⟩
theorem left_ok {c : Int} {w : Pw} : ∃ n g : Int, F_law_left [.val (.int (c))] w = .ok (.new [.int n, .int g, .int 0]) w ∧ 0 ≤ n ∧ (g = 0 → n < 2147483629) := by
  obtain ⟨A, A0, T, U, e1, e2, e3⟩ := big_pow
  by_cases h : c < 1000000000000000000
  · refine ⟨c % 2147483629, 0, ?_, Int.emod_nonneg _ (by omega), fun _ => Int.emod_lt_of_pos _ (by omega)⟩
    unfold F_law_left p_law_left
    simp only [x_runF]
    simp -implicitDefEqProofs [h]
  · refine ⟨(c - 1000000000000000000) % A, 1, ?_, Int.emod_nonneg _ (by omega), fun z => by cases z⟩
    unfold F_law_left p_law_left
    simp only [x_runF]
    simp -implicitDefEqProofs [h, z18, e1, e2, e3, mod_ok A0, -pow_ok]
theorem draw2_ok {pa : Addr} {w : Pw} {m b : Int} (h : LP pa w m) (b0 : 0 < b) (b1 : b < 2 ^ 100) (hm : m < 2 ^ 38) : ∃ r w', F_law_draw_v3 [.raw (.ref pa), .val (.int (b))] w = .ok (.val (.int (r))) w' ∧ 0 ≤ r ∧ r < b ∧ LP pa w' (m + 1) := by
  obtain ⟨n, g, t, rfl, n0, n1, t0, t1⟩ := h
  have r0 : ∀ x : Int, 0 ≤ x % b := fun x => Int.emod_nonneg x (by omega)
  have r1 : ∀ x : Int, x % b < b := fun x => Int.emod_lt_of_pos x b0
  have em : ∀ x : Int, modO (.int x) (.int b) = some (.val (.int (x % b))) := fun x => mod_ok b0
  have ed : ∀ x : Int, fdivO (.int x) (.int b) = some (.val (.int (x / b))) := fun x => fdiv_ok b0 (by omega)
  have i2 : ixN 3 2 = some 2 := rfl
  have i0 : ixN 3 0 = some 0 := rfl
  have z9 : powO (.int 10) (.int 9) = some (.val (.int 1000000000)) := by simp
  by_cases hg : g = 0
  · subst hg
    have n1 := n1 rfl
    obtain ⟨x, e1, x0, x1⟩ := mix_ok (n := n) (k := t + 1) (w := some (pa, pa, [n, 0, t + 1], 0)) n0 (by omega) (by omega) (by omega)
    have lp : LP pa (some (pa, pa, [n, 0, t + 1], 0)) (m + 1) := ⟨n, 0, t + 1, rfl, n0, fun _ => n1, by omega, by omega⟩
    by_cases hb : 1000000000 < b
    · obtain ⟨y, e2, y0, y1⟩ := mix_ok (n := n) (k := t + 1 + 500) (w := some (pa, pa, [n, 0, t + 1], 0)) n0 (by omega) (by omega) (by omega)
      have e3 : powO (.int y) (.int 3) = some (.val (.int (y ^ 3))) := pow_ok (by omega) (by omega) (by omega) (by omega)
      obtain ⟨q0, q1⟩ := mul_nn y0 y1 y0 y1
      obtain ⟨q2, q3⟩ := mul_nn q0 q1 y0 y1
      have ey : y ^ 3 = y * y * y := by rw [Int.pow_succ, Int.pow_succ, Int.pow_succ, Int.pow_zero, Int.one_mul]
      rw [← ey] at q2 q3
      obtain ⟨p, hp⟩ : ∃ p, p = y ^ 3 := ⟨_, rfl⟩
      rw [← hp] at q2 q3 e3
      obtain ⟨z, e4, z0, z1⟩ := mul_g (a := x) (b := p + 1) (A := 2 ^ 31) (B := 2 ^ 94) x0 (by omega) (by omega) (by omega) (by omega) (by omega)
      refine ⟨z % b, _, ?_, r0 _, r1 _, lp⟩
      unfold F_law_draw_v3 p_law_draw_v3
      simp only [x_runF]
      simp -implicitDefEqProofs [i2, i0, z9, e1, hb, e2, e3, e4, em, -pow_ok]
    · obtain ⟨z, e4, z0, z1⟩ := mul_g (a := x) (b := x + 2) (A := 2 ^ 31) (B := 2 ^ 32) x0 (by omega) (by omega) (by omega) (by omega) (by omega)
      refine ⟨z % 2147483579 % b, _, ?_, r0 _, r1 _, lp⟩
      unfold F_law_draw_v3 p_law_draw_v3
      simp only [x_runF]
      simp -implicitDefEqProofs [i2, i0, z9, e1, hb, e4, em]
  · have d0 : 0 ≤ n / b := Int.ediv_nonneg n0 (by omega)
    refine ⟨n % b, some (pa, pa, [n / b, g, t + 1], 0), ?_, r0 _, r1 _, ⟨n / b, g, t + 1, rfl, d0, fun z => (hg z).elim, by omega, by omega⟩⟩
    unfold F_law_draw_v3 p_law_draw_v3
    simp only [x_runF]
    simp -implicitDefEqProofs [i2, i0, hg, em, ed]

end DL

noncomputable section
namespace DL
open PySem L2

/-! lists of lists in order -/
def llD (x : List Int) : PyData := .list (x.map .int)
theorem llD_inj {x y : List Int} (h : llD x = llD y) : x = y := by
  unfold llD at h
  injection h with h
  exact map_int_inj.mp h
theorem alike_ints : ∀ (a b : List Int), PySem.W.alikeAll (a.map .int) (b.map .int) = true
  | [], _ => by cases ‹List Int› <;> rfl
  | x :: a, [] => rfl
  | x :: a, y :: b => by
    show (PySem.W.alike (.int x) (.int y) && PySem.W.alikeAll (a.map .int) (b.map .int)) = true
    rw [alike_ints a b]
    rfl
theorem canSort_ll (ls : List (List Int)) : canSort (ls.map llD) := by
  refine ⟨fun d hd d' hd' => ?_, .inr fun d hd => ?_, fun d hd => ?_⟩
  · obtain ⟨x, _, rfl⟩ := List.mem_map.mp hd
    obtain ⟨y, _, rfl⟩ := List.mem_map.mp hd'
    exact alike_ints x y
  · obtain ⟨x, _, rfl⟩ := List.mem_map.mp hd
    exact ⟨(fun h => by cases h), (fun xs h => by cases h)⟩
  · obtain ⟨x, _, rfl⟩ := List.mem_map.mp hd
    simp [llD]
def leLL (a b : List Int) : Bool := PySem.W.sortLe (PyProof.Rows.listOrd PyProof.Rows.itemOrd) false PySem.W.keyToks (llD a) (llD b)
def sortLL (ls : List (List Int)) : List (List Int) := ls.mergeSort leLL
theorem sortDD_ll (ls : List (List Int)) : sortDD (ls.map llD) = (sortLL ls).map llD := (PySem.W.sort_maps llD fun _ _ _ _ => rfl).symm
theorem sortLL_perm (ls : List (List Int)) : (sortLL ls).Perm ls := List.mergeSort_perm _ _
theorem toks_inj : ∀ (a b : List Int), PySem.W.keyToksAll (a.map .int) = PySem.W.keyToksAll (b.map .int) → a = b
  | [], [], _ => rfl
  | [], y :: b, h => by simp [PySem.W.keyToksAll] at h
  | x :: a, [], h => by simp [PySem.W.keyToksAll] at h
  | x :: a, y :: b, h => by
    simp [PySem.W.keyToksAll, PySem.W.keyToks] at h
    rw [h.1, toks_inj a b h.2]
theorem leLL_anti {a b : List Int} (h1 : leLL a b = true) (h2 : leLL b a = true) : a = b := by
  unfold leLL PySem.W.sortLe at h1 h2
  simp only [cond_false, Bool.not_eq_true'] at h1 h2
  have := (PyProof.Rows.listOrd PyProof.Rows.itemOrd).total _ _ h2 h1
  exact toks_inj a b this
theorem leLL_total : PySem.W.TotalLe leLL := { total := fun a b => (PySem.W.sortLe_total (PyProof.Rows.listOrd PyProof.Rows.itemOrd) false PySem.W.keyToks).total (llD a) (llD b), trans := fun a b c => (PySem.W.sortLe_total (PyProof.Rows.listOrd PyProof.Rows.itemOrd) false PySem.W.keyToks).trans (llD a) (llD b) (llD c) }
theorem sortLL_pair (ls : List (List Int)) : (sortLL ls).Pairwise fun a b => leLL a b = true := PySem.W.sort_pairwise leLL_total ls
theorem pair_eq : ∀ {l m : List (List Int)}, l.Perm m → l.Pairwise (fun a b => leLL a b = true) → m.Pairwise (fun a b => leLL a b = true) → l = m
  | [], m, h, _, _ => by have := h.length_eq; cases m with | nil => rfl | cons => simp at this
  | a :: l, [], h, _, _ => by have := h.length_eq; simp at this
  | a :: l, b :: m, h, h1, h2 => by
    have ha := List.pairwise_cons.mp h1
    have hb := List.pairwise_cons.mp h2
    have e1 : a ∈ b :: m := h.mem_iff.mp List.mem_cons_self
    have e2 : b ∈ a :: l := h.mem_iff.mpr List.mem_cons_self
    have e : a = b := by
      rcases List.mem_cons.mp e1 with e | e
      · exact e
      · rcases List.mem_cons.mp e2 with f | f
        · exact f.symm
        · exact leLL_anti (ha.1 b f) (hb.1 a e)
    subst e
    rw [pair_eq (List.Perm.cons_inv h) ha.2 hb.2]
theorem sortLL_eq {l m : List (List Int)} (h : l.Perm m) : sortLL l = sortLL m := pair_eq ((sortLL_perm l).trans (h.trans (sortLL_perm m).symm)) (sortLL_pair l) (sortLL_pair m)
theorem mem_sortLL {l : List (List Int)} {x : List Int} : x ∈ sortLL l ↔ x ∈ l := (sortLL_perm l).mem_iff
theorem intsD_ll {ls : List (List Int)} : intsD (ls.map llD) = if ls = [] then some [] else none := by
  cases ls with
  | nil => rfl
  | cons a l => simp [llD, intsD]
/-- what sorted tells of lists -/
theorem sortedO_ll (ls : List (List Int)) : sortedO [.list (ls.map llD)] = some (.new ((sortLL ls).map llD)) := by
  rw [x_sortedO, intsD_ll]
  by_cases h : ls = []
  · subst h
    simp [sortLL, sortI]
  · simp only [h, if_false]
    rw [if_pos (canSort_ll ls), sortDD_ll]
theorem calm_ll {ls : List (List Int)} : calmA (ls.map llD) = true := by
  rw [calm_map]
  simp [llD]
theorem dep_ll {ls : List (List Int)} : PyData.depthAll (ls.map llD) ≤ 1 := by
  rw [depthAll_le]
  intro x hx
  obtain ⟨y, _, rfl⟩ := List.mem_map.mp hx
  simp [llD]
theorem map_llD_inj {a b : List (List Int)} : a.map llD = b.map llD ↔ a = b := ⟨fun h => (List.map_inj_right (fun a b h => llD_inj h)).mp h, fun h => by rw [h]⟩
theorem x_eqLL {a b : List (List Int)} : eqO (.list (a.map llD)) (.list (b.map llD)) = some (.val (.bool (decide (a = b)))) := eqO_calm (by simpa using calm_ll) (by simpa using calm_ll) (by simp [map_llD_inj]) (by have := dep_ll (ls := a); simp; omega)
theorem x_neLL {a b : List (List Int)} : neO (.list (a.map llD)) (.list (b.map llD)) = some (.val (.bool (decide (¬ a = b)))) := neO_calm (by simpa using calm_ll) (by simpa using calm_ll) (by simp [map_llD_inj]) (by have := dep_ll (ls := a); simp; omega)
theorem x_inLL {x : List Int} {a : List (List Int)} : inO (llD x) (.list (a.map llD)) = some (.val (.bool (decide (x ∈ a)))) := by
  unfold inO
  simp only [items]
  rw [if_pos (by have := dep_ll (ls := a); simp [llD] at this ⊢; omega)]
  congr 3
  rw [Bool.eq_iff_iff]
  simp only [List.any_map, List.any_eq_true, Function.comp, decide_eq_true_eq]
  constructor
  · rintro ⟨y, hy, e⟩
    rw [eqv_calm _ _ (by simp [llD]) (by simp [llD])] at e
    rw [← llD_inj e]
    exact hy
  · intro h
    exact ⟨x, h, (eqv_calm _ _ (by simp [llD]) (by simp [llD])).mpr rfl⟩

end DL

noncomputable section
namespace DL
open PySem L2
def b_law_names_v6_1 : DSt → Flow := fseq (fSet 4 (fOp (lift2 addO) (fOp (lift2 addO) (fVar 4) (fC (.int 1))) (fUser F_law_draw_v3 (fCons (fVar 0) (fCons (fVar 2) fNil))))) (fDrop (fApp 3 (fVar 4)))
abbrev o_law_names_v6_1 : List PyData → DSt → Flow := loopF (bName 5) b_law_names_v6_1
def p_law_names_v6 : DSt → Flow := fseq (fSet 2 (fOp (lift2 ixO) (fLst (fCons (fC (.int 1)) (fCons (fC (.int 1)) (fCons (fC (.int 3)) (fCons (fOp (lift2 powO) (fC (.int 10)) (fC (.int 9))) fNil))))) (fUser F_law_draw_v3 (fCons (fVar 0) (fCons (fC (.int 4)) fNil))))) (fseq (fSet 3 (fLst fNil)) (fseq (fSet 4 (fUn (lift1 negO) (fC (.int 1)))) (fseq (fFor (fRng1 (pCons (fVar 1) fNil)) (bName 5) b_law_names_v6_1) (fRet (fVar 3)))))
def F_law_names_v6 : List R → Pw → FRes := runF 6 2 p_law_names_v6
def b_law_shuffled_v3_1 : DSt → Flow := fDrop (fIns 2 (fCons (fUser F_law_draw_v3 (fCons (fVar 0) (fCons (fOp (lift2 addO) (fCall lenO (pCons (fVar 2) fNil)) (fC (.int 1))) fNil))) (fCons (fVar 3) fNil)))
abbrev o_law_shuffled_v3_1 : List PyData → DSt → Flow := loopF (bName 3) b_law_shuffled_v3_1
def p_law_shuffled_v3 : DSt → Flow := fseq (fSet 2 (fLst fNil)) (fseq (fFor (fLstI (fVar 1)) (bName 3) b_law_shuffled_v3_1) (fRet (fVar 2)))
def F_law_shuffled_v3 : List R → Pw → FRes := runF 4 2 p_law_shuffled_v3
def b_law_tree_v2_1 : DSt → Flow := fseq (fSet 6 (fOp (lift2 ixO) (fVar 2) (fOp (lift2 ixO) (fLst (fCons (fUser F_law_draw_v3 (fCons (fVar 0) (fCons (fVar 5) fNil))) (fCons (fOp (lift2 subO) (fVar 5) (fC (.int 1))) (fCons (fC (.int 0)) fNil)))) (fVar 3)))) (fDrop (fApp 4 (fTup (fCons (fCall minO (pCons (fOp (lift2 ixO) (fVar 2) (fVar 5)) (pCons (fVar 6) fNil))) (fCons (fCall maxO (pCons (fOp (lift2 ixO) (fVar 2) (fVar 5)) (pCons (fVar 6) fNil))) fNil)))))
abbrev o_law_tree_v2_1 : List PyData → DSt → Flow := loopF (bName 5) b_law_tree_v2_1
def p_law_tree_v2 : DSt → Flow := fseq (fSet 2 (fUser F_law_shuffled_v3 (fCons (fVar 0) (fCons (fVar 1) fNil)))) (fseq (fSet 3 (fUser F_law_draw_v3 (fCons (fVar 0) (fCons (fC (.int 3)) fNil)))) (fseq (fSet 4 (fLst fNil)) (fseq (fFor (fRng2 (pCons (fC (.int 1)) (pCons (fCall lenO (pCons (fVar 2) fNil)) fNil))) (bName 5) b_law_tree_v2_1) (fRet (fCall sortedO (pCons (fVar 4) fNil))))))
def F_law_tree_v2 : List R → Pw → FRes := runF 7 2 p_law_tree_v2
theorem names6_ok {pa : Addr} {w : Pw} {m : Int} {n : Nat} (h : LP pa w m) (hm : m < 2 ^ 37) (hn : n ≤ 1000) : ∃ (ns : List Int) (w' : Pw), F_law_names_v6 [.raw (.ref pa), .val (.int ((n : Nat) : Int))] w = .ok (.new (ns.map .int)) w' ∧ ns.length = n ∧ ns.Pairwise (· < ·) ∧ (∀ x ∈ ns, 0 ≤ x ∧ x ≤ 1000000001 * n) ∧ LP pa w' (m + 5000) := by
  obtain ⟨r, w1, e1, r0, r1, q1⟩ := draw2_ok (b := 4) h (by omega) (by omega) (by omega)
  obtain ⟨far, ef, f0, f1⟩ : ∃ far : Int, atI [PyData.int 1, .int 1, .int 3, .int 1000000000] r = some (.int far) ∧ 0 < far ∧ far ≤ 1000000000 := by
    have : r = 0 ∨ r = 1 ∨ r = 2 ∨ r = 3 := by omega
    rcases this with q | q | q | q <;> rw [q]
    · exact ⟨1, rfl, by omega, by omega⟩
    · exact ⟨1, rfl, by omega, by omega⟩
    · exact ⟨3, rfl, by omega, by omega⟩
    · exact ⟨1000000000, rfl, by omega, by omega⟩
  obtain ⟨s', e, ns, last, w', v5, h1, h2, h3, h4, h6, rfl⟩ := loopN (b := bName 5) (p := b_law_names_v6_1) (f := fun (k : Nat) => PyData.int (0 + (k : Int))) (l := List.range n) (s := ⟨[.raw (.ref pa), .val (.int ((n : Nat) : Int)), .val (.int (far)), .own [], .val (.int (-1)), .no], w1⟩)
    (fun i s => ∃ (ns : List Int) (last : Int) (w' : Pw) (v5 : Sl), ns.length = i ∧ ns.Pairwise (· < ·) ∧ (∀ x ∈ ns, 0 ≤ x ∧ x ≤ last) ∧ (-1 ≤ last ∧ last ≤ 1000000001 * (i : Int)) ∧ LP pa w' (m + 1 + i) ∧ s = ⟨[.raw (.ref pa), .val (.int ((n : Nat) : Int)), .val (.int (far)), .own (ns.map .int), .val (.int (last)), v5], w'⟩)
    ⟨[], -1, w1, .no, rfl, .nil, by simp, by omega, by simpa using q1, rfl⟩ (by
      rintro i k s hi hk ⟨ns, last, w2, v5, h1, h2, h3, h4, h6, rfl⟩
      obtain ⟨rfl, hkn⟩ := range_at hi
      obtain ⟨d, w3, e3, d0, d1, q3⟩ := draw2_ok (b := far) h6 f0 (by omega) (by omega)
      have lt : ltS ns.length := size_lt (by omega)
      have em : ns.map PyData.int ++ [.int (last + 1 + d)] = (ns ++ [last + 1 + d]).map .int := by simp
      unfold b_law_names_v6_1
      simp -implicitDefEqProofs [e3, lt, em, -List.map_append, -map_int_inj]
      refine ⟨ns ++ [last + 1 + d], by rw [List.length_append, h1]; rfl, ?_, last + 1 + d, ?_, ⟨by omega, by omega⟩, q3.mono (by omega), rfl, rfl⟩
      · rw [List.pairwise_append]
        refine ⟨h2, List.pairwise_singleton _ _, fun a ha b hb => ?_⟩
        rw [List.mem_singleton] at hb
        have := h3 a ha
        omega
      · intro y hy
        rcases List.mem_append.mp hy with hy | hy
        · have := h3 y hy; omega
        · rw [List.mem_singleton] at hy; omega)
  have hB : inB (n : Int) := inB_of (by omega) (by omega)
  rw [List.length_range] at h1 h4 h6
  refine ⟨ns, w', ?_, h1, h2, fun x hx => ⟨(h3 x hx).1, by have := (h3 x hx).2; omega⟩, h6.mono (by omega)⟩
  have e' : loopF (bName 5) b_law_names_v6_1 (rangeD 0 n) ⟨[.raw (.ref pa), .val (.int ((n : Nat) : Int)), .val (.int (far)), .own [], .val (.int (-1)), .no], w1⟩ = _ := e
  unfold F_law_names_v6 p_law_names_v6
  simp only [x_runF]
  simp -implicitDefEqProofs [e1, ef, e', hB]
theorem shuffled3_ok {pa : Addr} {w : Pw} {m : Int} {N : List Int} (h : LP pa w m) (hm : m < 2 ^ 37) (h10 : N.length ≤ 1000) : ∃ (L : List Int) (w' : Pw), F_law_shuffled_v3 [.raw (.ref pa), .val (.list ((N).map .int))] w = .ok (.new (L.map .int)) w' ∧ L.Perm N ∧ LP pa w' (m + 1000) := by
  obtain ⟨s', e, L, v3, w', hp, q, rfl⟩ := loopN (b := bName 3) (p := b_law_shuffled_v3_1) (f := .int) (l := N) (s := ⟨[.raw (.ref pa), .val (.list ((N).map .int)), .own [], .no], w⟩)
    (fun i s => ∃ (L : List Int) (v3 : Sl) (w' : Pw), L.Perm (N.take i) ∧ LP pa w' (m + i) ∧ s = ⟨[.raw (.ref pa), .val (.list ((N).map .int)), .own (L.map .int), v3], w'⟩) ⟨[], .no, w, by simp, by simpa using h, rfl⟩ (by
      rintro i a s hi hm2 ⟨L, v3, w1, hp, q, rfl⟩
      have hi2 := (List.getElem?_eq_some_iff.mp hi).1
      have ll := hp.length_eq
      rw [List.length_take] at ll
      obtain ⟨k, w2, e2, k0, k1, q2⟩ := draw2_ok (b := (L.length : Int) + 1) q (by omega) (by omega) (by omega)
      obtain ⟨k, rfl⟩ := Int.eq_ofNat_of_zero_le k0
      have iw : inW (k : Int) := ⟨by omega, by omega⟩
      have lt : ltS L.length := size_lt (by omega)
      have em : (L.map PyData.int).take k ++ (PyData.int a :: (L.map PyData.int).drop k) = (L.take k ++ a :: L.drop k).map .int := by simp
      unfold b_law_shuffled_v3_1
      simp -implicitDefEqProofs [e2, iw, lt, em, -List.map_append, -List.map_cons, -List.map_take, -List.map_drop, -map_int_inj]
      refine ⟨_, ?_, q2.mono (by omega), rfl⟩
      rw [take_succ hi]
      have h1 : (L.take k ++ a :: L.drop k).Perm (a :: L) := by
        have := List.perm_middle (a := a) (l₁ := L.take k) (l₂ := L.drop k)
        rwa [List.take_append_drop] at this
      exact h1.trans ((List.Perm.cons a hp).trans (List.perm_append_singleton a (N.take i)).symm))
  refine ⟨L, w', ?_, by rwa [List.take_length] at hp, q.mono (by omega)⟩
  unfold F_law_shuffled_v3 p_law_shuffled_v3
  simp only [x_runF]
  simp -implicitDefEqProofs [e]
/-! ### ties in order -/
def tieP (a b : Int) : Int × Int := (min a b, max a b)
def lePr (p q : Int × Int) : Bool := PySem.W.sortLe (PyProof.Rows.listOrd PyProof.Rows.itemOrd) false PySem.W.keyToks (prT p) (prT q)
theorem lePr_iff {p q : Int × Int} : lePr p q = true ↔ ¬ ltP q p := by
  unfold lePr PySem.W.sortLe prT ltP
  simp [PySem.W.keyToks, PySem.W.keyToksAll, PyProof.Rows.listOrd, PyProof.Rows.itemOrd, PyProof.Rows.lexLt, PyProof.Rows.itemLt]
  omega
def sortPr (ps : List (Int × Int)) : List (Int × Int) := ps.mergeSort lePr
theorem sortDD_pr (ps : List (Int × Int)) : sortDD (ps.map prT) = (sortPr ps).map prT := (PySem.W.sort_maps prT fun _ _ _ _ => rfl).symm
theorem sortPr_perm (ps : List (Int × Int)) : (sortPr ps).Perm ps := List.mergeSort_perm _ _
theorem sortPr_le (ps : List (Int × Int)) : (sortPr ps).Pairwise fun p q => ¬ ltP q p := by
  have t : PySem.W.TotalLe lePr := { total := fun a b => (PySem.W.sortLe_total (PyProof.Rows.listOrd PyProof.Rows.itemOrd) false PySem.W.keyToks).total (prT a) (prT b), trans := fun a b c => (PySem.W.sortLe_total (PyProof.Rows.listOrd PyProof.Rows.itemOrd) false PySem.W.keyToks).trans (prT a) (prT b) (prT c) }
  exact (PySem.W.sort_pairwise t ps).imp fun h => lePr_iff.mp h
theorem canSort_pr (ps : List (Int × Int)) : canSort (ps.map prT) := by
  refine ⟨fun d hd d' hd' => ?_, .inl fun d hd => ?_, fun d hd => ?_⟩
  · obtain ⟨x, _, rfl⟩ := List.mem_map.mp hd
    obtain ⟨y, _, rfl⟩ := List.mem_map.mp hd'
    rfl
  · obtain ⟨x, _, rfl⟩ := List.mem_map.mp hd
    exact ⟨_, _, rfl⟩
  · obtain ⟨x, _, rfl⟩ := List.mem_map.mp hd
    simp [prT]
theorem intsD_pr {ps : List (Int × Int)} : intsD (ps.map prT) = if ps = [] then some [] else none := by
  cases ps with
  | nil => rfl
  | cons p ps => rfl
theorem sortedO_pr (ps : List (Int × Int)) : sortedO [.list (ps.map prT)] = some (.new ((sortPr ps).map prT)) := by
  rw [x_sortedO, intsD_pr]
  by_cases h : ps = []
  · subst h
    have e1 : sortPr [] = [] := by simp [sortPr]
    have e2 : sortI [] = [] := by simp [sortI]
    rw [if_pos rfl, e1]
    simp only [e2, List.map_nil]
  · rw [if_neg h]
    simp only [if_pos (canSort_pr ps), sortDD_pr]
theorem sortPr_nodup {ps : List (Int × Int)} (h : ps.Nodup) : (sortPr ps).Pairwise ltP := by
  have nd : (sortPr ps).Nodup := (sortPr_perm ps).nodup_iff.mpr h
  refine ((sortPr_le ps).and nd).imp fun {p q} h => (ltP_tri h.2).resolve_right h.1
theorem setP_self {ps : List (Int × Int)} : setP ps = ps ↔ ps.Pairwise ltP := ⟨fun h => h ▸ setP_pw ps, fun h => (setP_eq h fun _ => Iff.rfl).symm⟩
theorem setP_sort {ps : List (Int × Int)} (h : ps.Nodup) : setP (sortPr ps) = sortPr ps := setP_self.mpr (sortPr_nodup h)
/-- a tree as the law makes it: each name behind the first is tied to one ahead -/
def GenT (N : List Int) (T : List (Int × Int)) : Prop := ∃ (L : List Int) (f : Nat → Nat), L.Perm N ∧ (∀ k, 0 < k → k < L.length → f k < k) ∧ T = sortPr ((List.range' 1 (L.length - 1)).map fun k => tieP (L.getD k 0) (L.getD (f k) 0))
theorem tree_ok {pa : Addr} {w : Pw} {m : Int} {N : List Int} (h : LP pa w m) (hm : m < 2 ^ 36) (h0 : 0 < N.length) (h10 : N.length ≤ 1000) : ∃ (T : List (Int × Int)) (w' : Pw), F_law_tree_v2 [.raw (.ref pa), .val (.list ((N).map .int))] w = .ok (.new (T.map prT)) w' ∧ GenT N T ∧ LP pa w' (m + 5000) := by
  obtain ⟨L, w1, e1, hp, q1⟩ := shuffled3_ok h (by omega) h10
  obtain ⟨way, w2, e2, y0, y1, q2⟩ := draw2_ok (b := 3) q1 (by omega) (by omega) (by omega)
  have hl := hp.length_eq
  obtain ⟨s', e, T, f, v4, v5, v6, w', ⟨hf, hT⟩, q, rfl⟩ := loopN (b := bName 5) (p := b_law_tree_v2_1) (f := fun (k : Nat) => PyData.int (k : Int)) (l := List.range' 1 (L.length - 1)) (s := ⟨[.raw (.ref pa), .val (.list ((N).map .int)), .own (L.map .int), .val (.int (way)), .own [], .no, .no], w2⟩)
    (fun i s => ∃ (T : List (Int × Int)) (f : Nat → Nat) (v4 v5 v6 : Sl) (w' : Pw), ((∀ k, 0 < k → k < 1 + i → f k < k) ∧ T = (List.range' 1 i).map fun k => tieP (L.getD k 0) (L.getD (f k) 0)) ∧ LP pa w' (m + 1001 + i) ∧ s = ⟨[.raw (.ref pa), .val (.list ((N).map .int)), .own (L.map .int), .val (.int (way)), .own (T.map prT), v5, v6], w'⟩) ⟨[], fun _ => 0, .no, .no, .no, w2, ⟨by omega, rfl⟩, q2.mono (by simp; omega), rfl⟩ (by
      rintro i k s hi hm2 ⟨T, f, v4, v5, v6, w3, ⟨hf, hT⟩, q, rfl⟩
      have hk : k = 1 + i ∧ i < L.length - 1 := by
        have h1 := (List.getElem?_eq_some_iff.mp hi).1
        rw [List.length_range'] at h1
        rw [List.getElem?_range' h1] at hi
        cases hi
        exact ⟨by omega, h1⟩
      obtain ⟨rfl, hil⟩ := hk
      obtain ⟨d, w4, e4, d0, d1, q4⟩ := draw2_ok (b := ((1 + i : Nat) : Int)) q (by omega) (by omega) (by omega)
      obtain ⟨d, rfl⟩ := Int.eq_ofNat_of_zero_le d0
      obtain ⟨j, ej, jl⟩ : ∃ j : Nat, atI [PyData.int (d : Int), .int (((1 + i : Nat) : Int) - 1), .int 0] way = some (.int (j : Int)) ∧ j < 1 + i := by
        have : way = 0 ∨ way = 1 ∨ way = 2 := by omega
        rcases this with z | z | z <;> rw [z]
        · exact ⟨d, rfl, by omega⟩
        · have : ((1 + i : Nat) : Int) - 1 = (i : Int) := by omega
          rw [this]
          exact ⟨i, rfl, by omega⟩
        · exact ⟨0, rfl, by omega⟩
      have ak : atI (L.map PyData.int) ((1 + i : Nat) : Int) = some (.int (L.getD (1 + i) 0)) := by rw [atI_nat]; simp [List.getElem?_eq_getElem (show 1 + i < L.length by omega)]
      have aj : atI (L.map PyData.int) (j : Int) = some (.int (L.getD j 0)) := by rw [atI_nat]; simp [List.getElem?_eq_getElem (show j < L.length by omega)]
      obtain ⟨K, hK⟩ : ∃ K : Int, K = ((1 + i : Nat) : Int) := ⟨_, rfl⟩
      rw [← hK] at e4 ej ak
      have lt : ltS T.length := size_lt (by rw [hT]; simp; omega)
      unfold b_law_tree_v2_1
      rw [← hK]
      simp -implicitDefEqProofs [e4, ej, ak, aj, lt, -List.getD_eq_getElem?_getD]
      have et : PyData.tuple [PyData.int (if L.getD j 0 < L.getD (1 + i) 0 then L.getD j 0 else L.getD (1 + i) 0), PyData.int (if L.getD (1 + i) 0 < L.getD j 0 then L.getD j 0 else L.getD (1 + i) 0)] = prT (tieP (L.getD (1 + i) 0) (L.getD j 0)) := by
        have e1 : (if L.getD j 0 < L.getD (1 + i) 0 then L.getD j 0 else L.getD (1 + i) 0) = min (L.getD (1 + i) 0) (L.getD j 0) := by split <;> omega
        have e2 : (if L.getD (1 + i) 0 < L.getD j 0 then L.getD j 0 else L.getD (1 + i) 0) = max (L.getD (1 + i) 0) (L.getD j 0) := by split <;> omega
        rw [e1, e2]
        rfl
      refine ⟨T ++ [tieP (L.getD (1 + i) 0) (L.getD j 0)], ⟨fun k => if k = 1 + i then j else f k, fun k k0 k1 => ?_, ?_⟩, q4.mono (by omega), .no, by rw [et]; simp⟩
      · by_cases z : k = 1 + i
        · show (if k = 1 + i then j else f k) < k
          rw [if_pos z]; omega
        · show (if k = 1 + i then j else f k) < k
          rw [if_neg z]; exact hf k k0 (by omega)
      · rw [List.range'_concat, List.map_append, hT]
        congr 1
        · refine List.map_congr_left fun k hk => ?_
          rw [List.mem_range'_1] at hk
          have z : (if k = 1 + i then j else f k) = f k := if_neg (by omega)
          show _ = tieP (L.getD k 0) (L.getD (if k = 1 + i then j else f k) 0)
          rw [z]
        · simp)
  have hB : inB (1 : Int) := inB_of (by omega) (by omega)
  have hB2 : inB (L.length : Int) := inB_of (by omega) (by omega)
  rw [List.length_range'] at hf hT q
  refine ⟨sortPr T, w', ?_, ⟨L, f, hp, fun k k0 k1 => hf k k0 (by omega), by rw [hT]⟩, q.mono (by omega)⟩
  have so := sortedO_pr T
  have et : ((L.length : Int) - 1).toNat = L.length - 1 := by omega
  have rg : rangeD 1 (L.length - 1) = (List.range' 1 (L.length - 1)).map fun k : Nat => PyData.int (k : Int) := by
    unfold rangeD
    rw [List.range'_eq_map_range, List.map_map]
    refine List.map_congr_left fun k _ => ?_
    simp
  rw [← rg] at e
  unfold F_law_tree_v2 p_law_tree_v2
  simp only [x_runF]
  simp -implicitDefEqProofs [e1, e2, e, hB, hB2, et, so, -x_sortedO]

end DL

noncomputable section
namespace DL
open PySem L2
def t_reached_1 : M Bool := fB (fOp (lift2 notInO) (fVar 7) (fVar 3))
def e_reached_2 : M R := fVar 7
abbrev l_reached_2 : M R := fLc (fTupI (fTup (fCons (fVar 5) (fCons (fVar 6) fNil)))) (bName 7) (t_reached_1) (e_reached_2) [7]
def b_reached_3 : DSt → Flow := fIfS (fAnd (fB (fOp (lift2 inO) (fVar 5) (fVar 1))) (fAnd (fB (fOp (lift2 inO) (fVar 6) (fVar 1))) (fB (fOp (lift2 neO) (fOp (lift2 inO) (fVar 5) (fVar 3)) (fOp (lift2 inO) (fVar 6) (fVar 3)))))) (fSet 3 (fOp (lift2 addO) (fVar 3) (fLc (fTupI (fTup (fCons (fVar 5) (fCons (fVar 6) fNil)))) (bName 7) (t_reached_1) (e_reached_2) [7]))) fnext
abbrev o_reached_3 : List PyData → DSt → Flow := loopF (bTup 2 (bCons (bName 5) (bCons (bName 6) bNil))) b_reached_3
def c_reached_4 : M Bool := fB (fOp (lift2 ltO) (fVar 4) (fCall lenO (pCons (fVar 3) fNil)))
def b_reached_5 : DSt → Flow := fseq (fSet 4 (fCall lenO (pCons (fVar 3) fNil))) (fFor (fLstI (fVar 0)) (bTup 2 (bCons (bName 5) (bCons (bName 6) bNil))) b_reached_3)
abbrev o_reached_5 : DSt → Flow := whileF c_reached_4 b_reached_5 10000
def p_reached : DSt → Flow := fseq (fSet 3 (fLst (fCons (fVar 2) fNil))) (fseq (fSet 4 (fC (.int 0))) (fseq (whileF c_reached_4 b_reached_5 10000) (fRet (fVar 3))))
def F_reached : List R → Pw → FRes := runF 8 3 p_reached
def p_hang_together : DSt → Flow := fRet (fOp (lift2 eqO) (fCall lenO (pCons (fUser F_reached (fCons (fVar 0) (fCons (fVar 1) (fCons (fOp (lift2 ixO) (fVar 1) (fC (.int 0))) fNil)))) fNil)) (fCall lenO (pCons (fVar 1) fNil)))
def F_hang_together : List R → Pw → FRes := runF 2 2 p_hang_together
def t_law_together_1 : M Bool := fB (fOp (lift2 notInO) (fVar 6) (fVar 2))
def e_law_together_2 : M R := fVar 6
abbrev l_law_together_2 : M R := fLc (fTupI (fTup (fCons (fVar 4) (fCons (fVar 5) fNil)))) (bName 6) (t_law_together_1) (e_law_together_2) [6]
def b_law_together_3 : DSt → Flow := fIfS (fAnd (fB (fOp (lift2 inO) (fVar 4) (fVar 1))) (fAnd (fB (fOp (lift2 inO) (fVar 5) (fVar 1))) (fB (fOp (lift2 neO) (fOp (lift2 inO) (fVar 4) (fVar 2)) (fOp (lift2 inO) (fVar 5) (fVar 2)))))) (fSet 2 (fOp (lift2 addO) (fVar 2) (fLc (fTupI (fTup (fCons (fVar 4) (fCons (fVar 5) fNil)))) (bName 6) (t_law_together_1) (e_law_together_2) [6]))) fnext
abbrev o_law_together_3 : List PyData → DSt → Flow := loopF (bTup 2 (bCons (bName 4) (bCons (bName 5) bNil))) b_law_together_3
def b_law_together_4 : DSt → Flow := fFor (fLstI (fVar 0)) (bTup 2 (bCons (bName 4) (bCons (bName 5) bNil))) b_law_together_3
abbrev o_law_together_4 : List PyData → DSt → Flow := loopF (bName 3) b_law_together_4
def p_law_together : DSt → Flow := fseq (fSet 2 (fSlice (fVar 1) fNoPart (fPart (fC (.int 1))))) (fseq (fFor (fRng1 (pCons (fCall lenO (pCons (fVar 1) fNil)) fNil)) (bName 3) b_law_together_4) (fRet (fOp (lift2 eqO) (fCall lenO (pCons (fVar 2) fNil)) (fCall lenO (pCons (fVar 1) fNil)))))
def F_law_together : List R → Pw → FRes := runF 7 2 p_law_together
/-! what hangs together -/
def stepT (some : List Int) (found : List Int) (p : Int × Int) : List Int := if p.1 ∈ some ∧ p.2 ∈ some ∧ ¬ ((p.1 ∈ found) ↔ (p.2 ∈ found)) then found ++ [p.1, p.2].filter (fun x => decide (x ∉ found)) else found
def passT (ties : List (Int × Int)) (some found : List Int) : List Int := ties.foldl (stepT some) found
def itT (ties : List (Int × Int)) (some found : List Int) : Nat → List Int
  | 0 => found
  | n + 1 => passT ties some (itT ties some found n)
def clT (ties : List (Int × Int)) (some : List Int) (x : Int) : List Int := itT ties some [x] some.length
theorem stepT_pre {some found : List Int} {p : Int × Int} : ∃ E, stepT some found p = found ++ E := by
  unfold stepT
  split
  · exact ⟨_, rfl⟩
  · exact ⟨[], by simp⟩
theorem passT_pre {some : List Int} : ∀ {ties : List (Int × Int)} {found : List Int}, ∃ E, passT ties some found = found ++ E
  | [], found => ⟨[], by simp [passT]⟩
  | p :: ties, found => by
    obtain ⟨E, hE⟩ := stepT_pre (some := some) (found := found) (p := p)
    obtain ⟨F, hF⟩ := passT_pre (some := some) (ties := ties) (found := stepT some found p)
    refine ⟨E ++ F, ?_⟩
    show passT ties some (stepT some found p) = _
    rw [hF, hE, List.append_assoc]
def OkF (some found : List Int) : Prop := found.Nodup ∧ ∀ x ∈ found, x ∈ some
theorem stepT_ok {some found : List Int} {p : Int × Int} (h : OkF some found) : OkF some (stepT some found p) := by
  unfold stepT
  split
  · rename_i c
    obtain ⟨c1, c2, c3⟩ := c
    have ne : p.1 ≠ p.2 := fun e => c3 (by rw [e])
    refine ⟨?_, fun x hx => ?_⟩
    · rw [List.nodup_append]
      refine ⟨h.1, ?_, fun a ha b hb e => ?_⟩
      · exact List.Pairwise.filter _ (show [p.1, p.2].Nodup by simp [ne])
      · subst e
        simp at hb
        exact hb.2 ha
    · rcases List.mem_append.mp hx with hx | hx
      · exact h.2 x hx
      · simp at hx
        rcases hx.1 with e | e <;> rw [e] <;> assumption
  · exact h
theorem passT_ok {some : List Int} : ∀ {ties : List (Int × Int)} {found : List Int}, OkF some found → OkF some (passT ties some found)
  | [], _, h => h
  | p :: ties, found, h => passT_ok (ties := ties) (stepT_ok h)
theorem itT_ok {some found : List Int} {ties : List (Int × Int)} (h : OkF some found) : ∀ n, OkF some (itT ties some found n)
  | 0 => h
  | n + 1 => passT_ok (itT_ok h n)
theorem okF_len {some found : List Int} (h : OkF some found) : found.length ≤ some.length := by
  have := List.Nodup.length_le_of_subset h.1 (fun x hx => h.2 x hx)
  exact this
theorem itT_fix {some found : List Int} {ties : List (Int × Int)} {k : Nat} (h : passT ties some (itT ties some found k) = itT ties some found k) : ∀ i, itT ties some found (k + i) = itT ties some found k
  | 0 => rfl
  | i + 1 => by
    show passT ties some (itT ties some found (k + i)) = _
    rw [itT_fix h i, h]
theorem itT_grow {some found : List Int} {ties : List (Int × Int)} : ∀ n, (∀ i, i < n → passT ties some (itT ties some found i) ≠ itT ties some found i) → found.length + n ≤ (itT ties some found n).length
  | 0, _ => Nat.le_refl _
  | n + 1, h => by
    have ih := itT_grow n fun i hi => h i (by omega)
    have ne := h n (by omega)
    obtain ⟨E, hE⟩ := passT_pre (ties := ties) (some := some) (found := itT ties some found n)
    show _ ≤ (passT ties some (itT ties some found n)).length
    rw [hE, List.length_append]
    have : E ≠ [] := fun e => ne (by rw [hE, e, List.append_nil])
    have := List.length_pos_iff.mpr this
    omega
theorem clT_fix {some : List Int} {ties : List (Int × Int)} {x : Int} (hx : x ∈ some) : passT ties some (clT ties some x) = clT ties some x := by
  refine Classical.byContradiction fun ne => ?_
  have ok : OkF some [x] := ⟨by simp, fun y hy => by rw [List.mem_singleton] at hy; rw [hy]; exact hx⟩
  have g := itT_grow (ties := ties) (some := some) (found := [x]) (some.length + 1) fun i hi e => ?_
  · have := okF_len (itT_ok (ties := ties) ok (some.length + 1))
    rw [List.length_singleton] at g
    omega
  · refine ne ?_
    have f := itT_fix e (some.length - i)
    have e2 : i + (some.length - i) = some.length := by omega
    rw [e2] at f
    show passT ties some (itT ties some [x] some.length) = itT ties some [x] some.length
    rw [f, e]
theorem cl_of_fix {some : List Int} {ties : List (Int × Int)} {x : Int} (hx : x ∈ some) {k : Nat} (h : passT ties some (itT ties some [x] k) = itT ties some [x] k) : itT ties some [x] k = clT ties some x := by
  by_cases q : k ≤ some.length
  · have f := itT_fix h (some.length - k)
    have e2 : k + (some.length - k) = some.length := by omega
    rw [e2] at f
    exact f.symm
  · have f := itT_fix (clT_fix (ties := ties) hx) (k - some.length)
    have e2 : some.length + (k - some.length) = k := by omega
    rw [e2] at f
    exact f
/-! ### the walks -/
theorem step_dat {some found : List Int} {p : Int × Int} {w : Pw} {ties : List (Int × Int)} {x many : Int} {s5 s6 : Sl} (lt : found.length ≤ 1000) : bod (bTup 2 (bCons (bName 5) (bCons (bName 6) bNil))) b_reached_3 (prT p) ⟨[.val (.list ((ties).map prT)), .val (.list ((some).map .int)), .val (.int (x)), .own (found.map .int), .val (.int (many)), s5, s6, .no], w⟩ = .next ⟨[.val (.list ((ties).map prT)), .val (.list ((some).map .int)), .val (.int (x)), .own ((stepT some found p).map .int), .val (.int (many)), .val (.int (p.1)), .val (.int (p.2)), .no], w⟩ := by
  obtain ⟨a, b⟩ := p
  have lc : l_reached_2 ⟨[.val (.list ((ties).map prT)), .val (.list ((some).map .int)), .val (.int (x)), .own (found.map .int), .val (.int (many)), .val (.int (a)), .val (.int (b)), .no], w⟩ = .ok (.new (([a, b].filter fun x => decide (x ∉ found)).map .int)) ⟨[.val (.list ((ties).map prT)), .val (.list ((some).map .int)), .val (.int (x)), .own (found.map .int), .val (.int (many)), .val (.int (a)), .val (.int (b)), .no], w⟩ := by
    refine lc_gen (fun y : Int => ⟨[.val (.list ((ties).map prT)), .val (.list ((some).map .int)), .val (.int (x)), .own (found.map .int), .val (.int (many)), .val (.int (a)), .val (.int (b)), .val (.int (y))], w⟩) (fun y => decide (y ∉ found)) (fun y => .int y) (f := .int) (l := [a, b]) (by simp -implicitDefEqProofs) (by simp) rfl (fun a _ => by rfl) (fun a _ => by rfl) (fun y _ => ?_) (fun y _ _ => ?_)
    · unfold t_reached_1
      simp -implicitDefEqProofs
    · unfold e_reached_2
      simp -implicitDefEqProofs
  have lf : ([a, b].filter fun x => decide (x ∉ found)).length ≤ 2 := List.length_filter_le _ _
  have l1 : leS (found.length + ([a, b].filter fun x => decide (x ∉ found)).length) := size_le (by omega)
  obtain ⟨E, hE⟩ : ∃ E, E = [a, b].filter fun x => decide (x ∉ found) := ⟨_, rfl⟩
  have em : found.map PyData.int ++ E.map .int = (found ++ E).map .int := by simp
  unfold stepT
  simp only [← hE]
  rw [← hE] at lc l1
  unfold l_reached_2 at lc
  unfold b_reached_3
  by_cases h1 : a ∈ some
  · by_cases h2 : b ∈ some
    · by_cases h3 : a ∈ found <;> by_cases h4 : b ∈ found <;> simp -implicitDefEqProofs [prT, lc, h1, h2, h3, h4, l1, em, -List.map_append, -map_int_inj]
    · simp -implicitDefEqProofs [prT, h1, h2]
  · simp -implicitDefEqProofs [prT, h1]
theorem pass_dat {some found : List Int} {T ties : List (Int × Int)} {w : Pw} {x many : Int} {s5 s6 : Sl} (hf : OkF some found) (hs : some.length ≤ 1000) : ∃ t5 t6 : Sl, loopF (bTup 2 (bCons (bName 5) (bCons (bName 6) bNil))) b_reached_3 (ties.map prT) ⟨[.val (.list ((T).map prT)), .val (.list ((some).map .int)), .val (.int (x)), .own (found.map .int), .val (.int (many)), s5, s6, .no], w⟩ = .next ⟨[.val (.list ((T).map prT)), .val (.list ((some).map .int)), .val (.int (x)), .own ((passT ties some found).map .int), .val (.int (many)), t5, t6, .no], w⟩ := by
  obtain ⟨s', e, t5, t6, ⟨ok, ef⟩, rfl⟩ := loopN (b := bTup 2 (bCons (bName 5) (bCons (bName 6) bNil))) (p := b_reached_3) (f := prT) (l := ties) (s := ⟨[.val (.list ((T).map prT)), .val (.list ((some).map .int)), .val (.int (x)), .own (found.map .int), .val (.int (many)), s5, s6, .no], w⟩)
    (fun i s => ∃ t5 t6 : Sl, (OkF some (passT (ties.take i) some found) ∧ True) ∧ s = ⟨[.val (.list ((T).map prT)), .val (.list ((some).map .int)), .val (.int (x)), .own ((passT (ties.take i) some found).map .int), .val (.int (many)), t5, t6, .no], w⟩) ⟨s5, s6, ⟨hf, trivial⟩, rfl⟩ (by
      rintro i p s hi hp ⟨t5, t6, ⟨ok, _⟩, rfl⟩
      have lt := okF_len ok
      rw [step_dat (by omega), take_succ hi]
      have ep : passT (ties.take i ++ [p]) some found = stepT some (passT (ties.take i) some found) p := by
        unfold passT
        rw [List.foldl_append]
        rfl
      rw [ep]
      exact ⟨_, rfl, _, _, ⟨stepT_ok ok, trivial⟩, rfl⟩)
  rw [List.take_length] at e
  exact ⟨t5, t6, e⟩
theorem reached_ok {some : List Int} {ties : List (Int × Int)} {w : Pw} {x : Int} (hx : x ∈ some) (hs : some.length ≤ 100) : F_reached [.val (.list ((ties).map prT)), .val (.list ((some).map .int)), .val (.int (x))] w = .ok (.new ((clT ties some x).map .int)) w := by
  have ok1 : OkF some [x] := ⟨by simp, fun y hy => by rw [List.mem_singleton] at hy; rw [hy]; exact hx⟩
  obtain ⟨s', e, ⟨k, many, s5, s6, hk, rfl⟩, hc⟩ := whileF_inv (c := c_reached_4) (p := b_reached_5) (s := ⟨[.val (.list ((ties).map prT)), .val (.list ((some).map .int)), .val (.int (x)), .own [.int x], .val (.int (0)), .no, .no, .no], w⟩)
    (fun s => ∃ (k : Nat) (many : Nat) (s5 s6 : Sl), ((k = 0 ∧ many = 0) ∨ (0 < k ∧ many = (itT ties some [x] (k - 1)).length)) ∧ s = ⟨[.val (.list ((ties).map prT)), .val (.list ((some).map .int)), .val (.int (x)), .own ((itT ties some [x] k).map .int), .val (.int ((many : Nat) : Int)), s5, s6, .no], w⟩)
    (fun s => 1000 - (match s.d with | [_, _, _, _, .val (.int m), _, _, _] => m.toNat | _ => 0)) 10000 ⟨0, 0, .no, .no, .inl ⟨rfl, rfl⟩, rfl⟩ (by simp) (by
      rintro s ⟨k, many, s5, s6, hk, rfl⟩
      have okk := itT_ok (ties := ties) ok1 k
      have lk := okF_len okk
      by_cases q : many < (itT ties some [x] k).length
      · refine .inl ⟨_, by unfold c_reached_4; simp -implicitDefEqProofs [q]; rfl, ?_⟩
        obtain ⟨t5, t6, ep⟩ := pass_dat (T := ties) (ties := ties) (w := w) (x := x) (many := ((itT ties some [x] k).length : Int)) (s5 := s5) (s6 := s6) okk (by omega)
        refine ⟨⟨[.val (.list ((ties).map prT)), .val (.list ((some).map .int)), .val (.int (x)), .own ((itT ties some [x] (k + 1)).map .int), .val (.int (((itT ties some [x] k).length : Nat) : Int)), t5, t6, .no], w⟩, ?_, ⟨k + 1, _, t5, t6, .inr ⟨by omega, rfl⟩, rfl⟩, ?_⟩
        · unfold b_reached_5
          simp -implicitDefEqProofs [ep, itT]
        · show 1000 - ((((itT ties some [x] k).length : Nat) : Int).toNat) < 1000 - (((many : Nat) : Int).toNat)
          omega
      · exact .inr (by unfold c_reached_4; simp -implicitDefEqProofs [q]))
  have q : ¬ many < (itT ties some [x] k).length := by
    intro q
    unfold c_reached_4 at hc
    simp -implicitDefEqProofs [q] at hc
  have fx : itT ties some [x] k = clT ties some x := by
    rcases hk with ⟨rfl, rfl⟩ | ⟨k0, hm⟩
    · exact (q (by show 0 < 1; omega)).elim
    · obtain ⟨j, rfl⟩ : ∃ j, k = j + 1 := ⟨k - 1, by omega⟩
      rw [Nat.add_sub_cancel] at hm
      obtain ⟨E, hE⟩ := passT_pre (ties := ties) (some := some) (found := itT ties some [x] j)
      have h2 : itT ties some [x] (j + 1) = itT ties some [x] j ++ E := hE
      rw [h2, List.length_append] at q
      have : E = [] := List.length_eq_zero_iff.mp (by omega)
      rw [this, List.append_nil] at h2 hE
      rw [h2]
      exact cl_of_fix hx hE
  unfold F_reached p_reached
  simp only [x_runF]
  simp -implicitDefEqProofs [e, fx]
theorem hang_ok {some : List Int} {ties : List (Int × Int)} {w : Pw} (h0 : 0 < some.length) (hs : some.length ≤ 100) : F_hang_together [.val (.list ((ties).map prT)), .val (.list ((some).map .int))] w = .ok (.val (.bool (decide ((clT ties some (some.headD 0)).length = some.length)))) w := by
  obtain ⟨x, r, rfl⟩ : ∃ x r, some = x :: r := by
    cases some with
    | nil => simp at h0
    | cons x r => exact ⟨x, r, rfl⟩
  have e := reached_ok (ties := ties) (w := w) (x := x) (some := x :: r) List.mem_cons_self hs
  have a0 : atI ((x :: r).map PyData.int) 0 = some (.int x) := by simp
  obtain ⟨S, hS⟩ : ∃ S, S = x :: r := ⟨_, rfl⟩
  have hd : S.headD 0 = x := by rw [hS]; rfl
  rw [← hS] at e a0 ⊢
  rw [hd]
  unfold F_hang_together p_hang_together
  simp only [x_runF]
  simp -implicitDefEqProofs [a0, e]
  omega
theorem step_law {some found : List Int} {p : Int × Int} {w : Pw} {ties : List (Int × Int)} {s : Int} {s4 s5 : Sl} (lt : found.length ≤ 1000) : bod (bTup 2 (bCons (bName 4) (bCons (bName 5) bNil))) b_law_together_3 (prT p) ⟨[.val (.list ((ties).map prT)), .val (.list ((some).map .int)), .own (found.map .int), .val (.int (s)), s4, s5, .no], w⟩ = .next ⟨[.val (.list ((ties).map prT)), .val (.list ((some).map .int)), .own ((stepT some found p).map .int), .val (.int (s)), .val (.int (p.1)), .val (.int (p.2)), .no], w⟩ := by
  obtain ⟨a, b⟩ := p
  have lc : l_law_together_2 ⟨[.val (.list ((ties).map prT)), .val (.list ((some).map .int)), .own (found.map .int), .val (.int (s)), .val (.int (a)), .val (.int (b)), .no], w⟩ = .ok (.new (([a, b].filter fun x => decide (x ∉ found)).map .int)) ⟨[.val (.list ((ties).map prT)), .val (.list ((some).map .int)), .own (found.map .int), .val (.int (s)), .val (.int (a)), .val (.int (b)), .no], w⟩ := by
    refine lc_gen (fun y : Int => ⟨[.val (.list ((ties).map prT)), .val (.list ((some).map .int)), .own (found.map .int), .val (.int (s)), .val (.int (a)), .val (.int (b)), .val (.int (y))], w⟩) (fun y => decide (y ∉ found)) (fun y => .int y) (f := .int) (l := [a, b]) (by simp -implicitDefEqProofs) (by simp) rfl (fun a _ => by rfl) (fun a _ => by rfl) (fun y _ => ?_) (fun y _ _ => ?_)
    · unfold t_law_together_1
      simp -implicitDefEqProofs
    · unfold e_law_together_2
      simp -implicitDefEqProofs
  have lf : ([a, b].filter fun x => decide (x ∉ found)).length ≤ 2 := List.length_filter_le _ _
  have l1 : leS (found.length + ([a, b].filter fun x => decide (x ∉ found)).length) := size_le (by omega)
  obtain ⟨E, hE⟩ : ∃ E, E = [a, b].filter fun x => decide (x ∉ found) := ⟨_, rfl⟩
  have em : found.map PyData.int ++ E.map .int = (found ++ E).map .int := by simp
  unfold stepT
  simp only [← hE]
  rw [← hE] at lc l1
  unfold l_law_together_2 at lc
  unfold b_law_together_3
  by_cases h1 : a ∈ some
  · by_cases h2 : b ∈ some
    · by_cases h3 : a ∈ found <;> by_cases h4 : b ∈ found <;> simp -implicitDefEqProofs [prT, lc, h1, h2, h3, h4, l1, em, -List.map_append, -map_int_inj]
    · simp -implicitDefEqProofs [prT, h1, h2]
  · simp -implicitDefEqProofs [prT, h1]
theorem pass_law {some found : List Int} {T ties : List (Int × Int)} {w : Pw} {s : Int} {s4 s5 : Sl} (hf : OkF some found) (hs : some.length ≤ 1000) : ∃ t4 t5 : Sl, loopF (bTup 2 (bCons (bName 4) (bCons (bName 5) bNil))) b_law_together_3 (ties.map prT) ⟨[.val (.list ((T).map prT)), .val (.list ((some).map .int)), .own (found.map .int), .val (.int (s)), s4, s5, .no], w⟩ = .next ⟨[.val (.list ((T).map prT)), .val (.list ((some).map .int)), .own ((passT ties some found).map .int), .val (.int (s)), t4, t5, .no], w⟩ := by
  obtain ⟨s', e, t5, t6, ⟨ok, ef⟩, rfl⟩ := loopN (b := bTup 2 (bCons (bName 4) (bCons (bName 5) bNil))) (p := b_law_together_3) (f := prT) (l := ties) (s := ⟨[.val (.list ((T).map prT)), .val (.list ((some).map .int)), .own (found.map .int), .val (.int (s)), s4, s5, .no], w⟩)
    (fun i z => ∃ t5 t6 : Sl, (OkF some (passT (ties.take i) some found) ∧ True) ∧ z = ⟨[.val (.list ((T).map prT)), .val (.list ((some).map .int)), .own ((passT (ties.take i) some found).map .int), .val (.int (s)), t5, t6, .no], w⟩) ⟨s4, s5, ⟨hf, trivial⟩, rfl⟩ (by
      rintro i p z hi hp ⟨t5, t6, ⟨ok, _⟩, rfl⟩
      have lt := okF_len ok
      rw [step_law (by omega), take_succ hi]
      have ep : passT (ties.take i ++ [p]) some found = stepT some (passT (ties.take i) some found) p := by
        unfold passT
        rw [List.foldl_append]
        rfl
      rw [ep]
      exact ⟨_, rfl, _, _, ⟨stepT_ok ok, trivial⟩, rfl⟩)
  rw [List.take_length] at e
  exact ⟨t5, t6, e⟩
theorem together_ok {some : List Int} {ties : List (Int × Int)} {w : Pw} (h0 : 0 < some.length) (hs : some.length ≤ 100) : F_law_together [.val (.list ((ties).map prT)), .val (.list ((some).map .int))] w = .ok (.val (.bool (decide ((clT ties some (some.headD 0)).length = some.length)))) w := by
  obtain ⟨x, r, er⟩ : ∃ x r, some = x :: r := by
    cases some with
    | nil => simp at h0
    | cons x r => exact ⟨x, r, rfl⟩
  have hd : some.headD 0 = x := by rw [er]; rfl
  have hx : x ∈ some := by rw [er]; exact List.mem_cons_self
  have c1 : cutI some none (Option.some 1) = [x] := by rw [er]; exact cut_to (k := 1)
  have ok1 : OkF some [x] := ⟨by simp, fun y hy => by rw [List.mem_singleton] at hy; rw [hy]; exact hx⟩
  obtain ⟨s', e, s3, s4, s5, rfl⟩ := loopN (b := bName 3) (p := b_law_together_4) (f := fun k : Nat => PyData.int (k : Int)) (l := List.range some.length) (s := ⟨[.val (.list ((ties).map prT)), .val (.list ((some).map .int)), .own [.int x], .no, .no, .no, .no], w⟩)
    (fun i z => ∃ s3 s4 s5 : Sl, z = ⟨[.val (.list ((ties).map prT)), .val (.list ((some).map .int)), .own ((itT ties some [x] i).map .int), s3, s4, s5, .no], w⟩) ⟨.no, .no, .no, rfl⟩ (by
      rintro i k z hi hk ⟨s3, s4, s5, rfl⟩
      obtain ⟨rfl, hkl⟩ := range_at hi
      obtain ⟨t4, t5, ep⟩ := pass_law (T := ties) (ties := ties) (w := w) (s := (k : Int)) (s4 := s4) (s5 := s5) (itT_ok (ties := ties) ok1 k) (by omega)
      have h2 : itT ties some [x] (k + 1) = passT ties some (itT ties some [x] k) := rfl
      rw [h2]
      unfold b_law_together_4
      simp -implicitDefEqProofs [ep])
  rw [List.length_range] at e
  have hB : inB (some.length : Int) := inB_of (by omega) (by omega)
  have ecl : itT ties some [x] some.length = clT ties some x := rfl
  rw [ecl] at e
  rw [hd]
  obtain ⟨C, hC⟩ : ∃ C, C = clT ties some x := ⟨_, rfl⟩
  rw [← hC] at e ⊢
  unfold F_law_together p_law_together
  simp only [x_runF]
  simp -implicitDefEqProofs [cutD_map, c1, hB, rangeD, e]
  omega

end DL

noncomputable section
namespace DL
open PySem L2

@[simp] theorem x_isT_dict {kvs : List (PyData × PyData)} {m : String} : isT m (.dict kvs) = (m == "dict") := by simp [isT, isN, tyN]
def isI : PyData → Bool | .int _ => true | _ => false
def nameB : PyData → Bool | .int n => decide (0 ≤ n) | _ => false
theorem is_number_any {d : PyData} {w : Pw} : F_is_number [.val d] w = .ok (.val (.bool (isI d))) w := by
  unfold F_is_number p_is_number
  simp only [x_runF]
  cases d <;> simp -implicitDefEqProofs [isI]
theorem nub_of {ns : List Int} : ∀ i, i ≤ ns.length → (PyProof.Rows.firstMet (fun i => ns.getD i 0) i).length = i → PyProof.Rows.firstMet (fun i => ns.getD i 0) i = ns.take i ∧ (ns.take i).Nodup
  | 0, _, _ => by simp [PyProof.Rows.firstMet_zero]
  | i + 1, hi, h => by
    have hle := PyProof.Rows.firstMet_length_le (fun i => ns.getD i 0) i
    rw [PyProof.Rows.firstMet_succ] at h ⊢
    have ex : ns.getD i 0 = ns[i] := by simp [List.getD_eq_getElem?_getD, List.getElem?_eq_getElem (by omega : i < ns.length)]
    rw [ex] at h ⊢
    unfold PyProof.Rows.step_dedup at h ⊢
    by_cases q : ((PyProof.Rows.firstMet (fun i => ns.getD i 0) i).any (· == ns[i])) = true
    · rw [if_pos q] at h
      omega
    · rw [if_neg q] at h ⊢
      simp only [List.length_append, List.length_cons, List.length_nil] at h
      obtain ⟨e1, e2⟩ := nub_of (ns := ns) i (by omega) (by omega)
      rw [e1] at q ⊢
      have et : ns.take (i + 1) = ns.take i ++ [ns[i]] := by rw [List.take_add_one, List.getElem?_eq_getElem (by omega : i < ns.length)]; rfl
      refine ⟨et.symm, ?_⟩
      rw [et, List.nodup_append]
      refine ⟨e2, by simp, fun a ha b hb => ?_⟩
      simp at hb
      subst hb
      rintro rfl
      exact q (List.any_eq_true.mpr ⟨_, ha, by simp⟩)
theorem nub_iff {ns : List Int} : (nubI ns).length = ns.length ↔ ns.Nodup := by
  refine ⟨fun h => ?_, nub_len⟩
  have := (nub_of (ns := ns) ns.length (Nat.le_refl _) h).2
  rwa [List.take_length] at this
theorem nub_dec {ns : List Int} : decide (((nubI ns).length : Int) = (ns.length : Int)) = decide ns.Nodup := by
  rw [decide_eq_decide, ← nub_iff]
  omega
/-! ### what is a list of unlike names -/
theorem nameB_ints : ∀ {ds : List PyData}, ds.all nameB = true → ∃ ns : List Int, ds = ns.map .int ∧ ∀ x ∈ ns, 0 ≤ x
  | [], _ => ⟨[], rfl, by simp⟩
  | d :: ds, h => by
    simp at h
    obtain ⟨ns, rfl, h2⟩ := nameB_ints (ds := ds) (by simpa using h.2)
    cases d with
    | int n => exact ⟨n :: ns, rfl, by
        have h1 : 0 ≤ n := by simpa [nameB] using h.1
        simp [h1]
        exact h2⟩
    | _ => simp [nameB] at h
def unlikeB : PyData → Bool
  | .list ds => match intsD ds with
    | some ns => decide (ns.Nodup ∧ ∀ x ∈ ns, 0 ≤ x)
    | none => false
  | _ => false
theorem intsD_some : ∀ {ds : List PyData} {ns : List Int}, intsD ds = some ns → ds = ns.map .int
  | [], _, h => by cases h; rfl
  | .int n :: ds, ns, h => by
    unfold intsD at h
    cases q : intsD ds with
    | none => rw [q] at h; cases h
    | some ms => rw [q] at h; cases h; rw [intsD_some q]; rfl
  | .none :: _, _, h | .bool _ :: _, _, h | .str _ :: _, _, h | .list _ :: _, _, h | .tuple _ :: _, _, h | .dict _ :: _, _, h => by unfold intsD at h; cases h
theorem names_iff {ds : List PyData} : ds.all nameB = true ↔ ∃ ns : List Int, intsD ds = some ns ∧ ∀ x ∈ ns, 0 ≤ x := by
  constructor
  · intro h
    obtain ⟨ns, rfl, h2⟩ := nameB_ints h
    exact ⟨ns, intsD_map ns, h2⟩
  · rintro ⟨ns, h, h2⟩
    rw [intsD_some h]
    simpa [nameB] using h2
def lenOk (d : PyData) : Prop := match d with | .list ds => ds.length ≤ 4000 | _ => True
theorem unlike_any {d : PyData} {w : Pw} (hl : lenOk d) : F_are_unlike_names [.val d] w = .ok (.val (.bool (unlikeB d))) w := by
  cases d with
  | list ds =>
    have hl : ds.length ≤ 4000 := hl
    have e : fLc (fLstI (fVar 0)) (bName 1) fYes e_are_unlike_names_1 [1] ⟨[.val (.list ds), .no], w⟩ = .ok (.new (ds.map fun x => .bool (nameB x))) ⟨[.val (.list ds), .no], w⟩ := by
      refine lc_all (fun a : PyData => ⟨[.val (.list ds), .val a], w⟩) _ (f := id) (l := ds) (by simp -implicitDefEqProofs) (by omega) rfl (fun a _ => by rfl) (fun a _ => by rfl) (fun a _ => ?_)
      unfold e_are_unlike_names_1
      cases a <;> simp -implicitDefEqProofs [is_number_any, isI, nameB]
    by_cases h : ds.all nameB = true
    · obtain ⟨ns, e1, e2⟩ := names_iff.mp h
      have h' : (ds.map nameB).all id = true := by simpa using h
      have el : ds.length = ns.length := by rw [intsD_some e1]; simp
      have eu : unlikeB (.list ds) = decide ns.Nodup := by
        show (match intsD ds with | some ns => decide (ns.Nodup ∧ ∀ x ∈ ns, 0 ≤ x) | none => false) = _
        rw [e1]
        simp
        exact fun _ => e2
      have hl2 : ns.length ≤ 4000 := by omega
      have en := nub_dec (ns := ns)
      unfold F_are_unlike_names p_are_unlike_names
      simp only [x_runF]
      simp -implicitDefEqProofs [e, boolsD_map', h', e1, hl2, el, en, eu]
    · have h' : (ds.map nameB).all id = false := by simpa using h
      have eu : unlikeB (.list ds) = false := by
        rw [Bool.eq_false_iff]
        intro z
        unfold unlikeB at z
        dsimp only at z
        split at z
        · rename_i ns e1
          exact h (names_iff.mpr ⟨ns, e1, (of_decide_eq_true z).2⟩)
        · cases z
      unfold F_are_unlike_names p_are_unlike_names
      simp only [x_runF]
      simp -implicitDefEqProofs [e, boolsD_map', h', eu]
  | _ =>
    unfold F_are_unlike_names p_are_unlike_names
    simp only [x_runF]
    simp -implicitDefEqProofs [unlikeB]

instance (ns : List Int) : Decidable (Rank ns) := Classical.propDecidable _
def rankB : PyData → Bool
  | .list ds => match intsD ds with
    | some ns => decide (Rank ns)
    | none => false
  | _ => false
theorem rankB_ints {ns : List Int} : rankB (.list (ns.map .int)) = decide (Rank ns) := by
  show (match intsD (ns.map .int) with | some ns => decide (Rank ns) | none => false) = _
  rw [intsD_map]
theorem rankB_some {d : PyData} (h : rankB d = true) : ∃ ns : List Int, d = .list (ns.map .int) ∧ Rank ns := by
  cases d with
  | list ds =>
    have h : (match intsD ds with | some ns => decide (Rank ns) | none => false) = true := h
    split at h
    · rename_i ns e
      exact ⟨ns, by rw [intsD_some e], of_decide_eq_true h⟩
    · cases h
  | _ => cases h
theorem is_ranking_any {d : PyData} {w : Pw} (hl : lenOk d) : F_is_ranking [.val d] w = .ok (.val (.bool (rankB d))) w := by
  have hu := unlike_any (w := w) hl
  cases d with
  | list ds =>
    have hl : ds.length ≤ 4000 := hl
    cases e : intsD ds with
    | none =>
      have e1 : unlikeB (.list ds) = false := by
        show (match intsD ds with | some ns => decide (ns.Nodup ∧ ∀ x ∈ ns, 0 ≤ x) | none => false) = _
        rw [e]
      have e2 : rankB (.list ds) = false := by
        show (match intsD ds with | some ns => decide (Rank ns) | none => false) = _
        rw [e]
      rw [e1] at hu
      unfold F_is_ranking p_is_ranking
      simp only [x_runF]
      simp -implicitDefEqProofs [hu, e2]
    | some ns =>
      obtain rfl := intsD_some e
      have e1 : unlikeB (.list (ns.map .int)) = decide (ns.Nodup ∧ ∀ x ∈ ns, 0 ≤ x) := by
        show (match intsD (ns.map .int) with | some ns => decide (ns.Nodup ∧ ∀ x ∈ ns, 0 ≤ x) | none => false) = _
        rw [e]
      rw [e1] at hu
      rw [rankB_ints]
      by_cases h1 : ns.Nodup ∧ ∀ x ∈ ns, 0 ≤ x
      · have hd : decide (ns.Nodup ∧ ∀ x ∈ ns, 0 ≤ x) = true := decide_eq_true h1
        rw [hd] at hu
        by_cases h2 : 0 < ns.length
        · have er : decide (Rank ns) = decide ((ns.length : Int) ≤ 10) := by
            rw [decide_eq_decide]
            unfold Rank
            constructor
            · rintro ⟨_, _, _, h⟩; omega
            · intro h; exact ⟨h1.1, h1.2, h2, by omega⟩
          unfold F_is_ranking p_is_ranking
          simp only [x_runF]
          simp -implicitDefEqProofs [hu, h2, er]
        · have er : decide (Rank ns) = false := decide_eq_false fun z => h2 z.2.2.1
          unfold F_is_ranking p_is_ranking
          simp only [x_runF]
          simp -implicitDefEqProofs [hu, h2, er]
      · have hd : decide (ns.Nodup ∧ ∀ x ∈ ns, 0 ≤ x) = false := decide_eq_false h1
        have er : decide (Rank ns) = false := decide_eq_false fun z => h1 ⟨z.1, z.2.1⟩
        rw [hd] at hu
        unfold F_is_ranking p_is_ranking
        simp only [x_runF]
        simp -implicitDefEqProofs [hu, er]
  | _ =>
    unfold F_is_ranking p_is_ranking
    simp only [x_runF]
    simp -implicitDefEqProofs [hu, unlikeB, rankB]

end DL

noncomputable section
namespace DL
open PySem L2

/-! ### falling along a line: the plain law -/
/-- no hole in Q, of the line's names -/
def cvx (L Q : List Int) : Prop := ∀ u ∈ Q, ∀ v ∈ Q, ∀ t ∈ L, L.idxOf u < L.idxOf t → L.idxOf t < L.idxOf v → t ∈ Q
/-- no name that the ranking has behind two on both its sides -/
def noV (L r : List Int) : Prop := ∀ u ∈ L, ∀ t ∈ L, ∀ v ∈ L, L.idxOf u < L.idxOf t → L.idxOf t < L.idxOf v → ¬ (r.idxOf u < r.idxOf t ∧ r.idxOf v < r.idxOf t)
theorem mem_take_idx {r : List Int} {t : Int} {m : Nat} : t ∈ r.take m ↔ t ∈ r ∧ r.idxOf t < m := by
  induction r generalizing m with
  | nil => simp
  | cons a r ih =>
    cases m with
    | zero => simp
    | succ m =>
      rw [List.take_succ_cons, List.mem_cons, List.mem_cons, ih, List.idxOf_cons]
      by_cases h : t = a
      · subst h
        simp
      · have : (a == t) = false := by simpa using fun e => h e.symm
        rw [this]
        simp [h]
theorem noV_cvx {L r : List Int} (hp : L.Perm r) : noV L r ↔ ∀ m, cvx L (r.take m) := by
  constructor
  · intro h m u hu v hv t ht h1 h2
    rw [mem_take_idx] at hu hv ⊢
    refine ⟨hp.mem_iff.mp ht, ?_⟩
    have := h u (hp.mem_iff.mpr hu.1) t ht v (hp.mem_iff.mpr hv.1) h1 h2
    omega
  · intro h u hu t ht v hv h1 h2 h3
    have hc := h (max (r.idxOf u) (r.idxOf v) + 1) u (mem_take_idx.mpr ⟨hp.mem_iff.mp hu, by omega⟩) v (mem_take_idx.mpr ⟨hp.mem_iff.mp hv, by omega⟩) t ht h1 h2
    have := (mem_take_idx.mp hc).2
    omega
theorem noV_rev {L r : List Int} (hL : L.Nodup) : noV L.reverse r ↔ noV L r := by
  have ix : ∀ x ∈ L, L.reverse.idxOf x = L.length - 1 - L.idxOf x := fun x hx => by
    have hi := List.idxOf_lt_length_iff.mpr hx
    have e : L.getD (L.idxOf x) 0 = x := by
      simp only [List.getD_eq_getElem?_getD, List.getElem?_eq_getElem hi]
      exact List.getElem_idxOf hi
    have hr : L.reverse.Nodup := (List.reverse_perm L).nodup_iff.mpr hL
    have e2 : L.getD (L.idxOf x) 0 = L.reverse.getD (L.length - 1 - L.idxOf x) 0 := by
      simp only [List.getD_eq_getElem?_getD]
      rw [List.getElem?_reverse (by omega)]
      congr 2
      omega
    have := nodup_idx hr (i := L.length - 1 - L.idxOf x) (by simp; omega)
    rw [← e2, e] at this
    exact this
  unfold noV
  constructor
  · intro h u hu t ht v hv h1 h2 h3
    have lu := List.idxOf_lt_length_iff.mpr hu
    have lt := List.idxOf_lt_length_iff.mpr ht
    have lv := List.idxOf_lt_length_iff.mpr hv
    exact h v (by simpa using hv) t (by simpa using ht) u (by simpa using hu) (by rw [ix v hv, ix t ht]; omega) (by rw [ix t ht, ix u hu]; omega) ⟨h3.2, h3.1⟩
  · intro h u hu t ht v hv h1 h2 h3
    have hu : u ∈ L := by simpa using hu
    have ht : t ∈ L := by simpa using ht
    have hv : v ∈ L := by simpa using hv
    have lu := List.idxOf_lt_length_iff.mpr hu
    have lt := List.idxOf_lt_length_iff.mpr ht
    have lv := List.idxOf_lt_length_iff.mpr hv
    rw [ix u hu, ix t ht] at h1
    rw [ix t ht, ix v hv] at h2
    exact h v hv t ht u hu (by omega) (by omega) ⟨h3.2, h3.1⟩
/-- item by item -/
def goB (ok : List Int → Int → Bool) : List Int → List Int → Bool
  | _, [] => true
  | Q, a :: l => ok Q a && goB ok (Q ++ [a]) l
theorem goB_cvx {L : List Int} {ok : List Int → Int → Bool} : ∀ (l Q : List Int), (∀ (Q : List Int) (a : Int), Q ≠ [] → (Q ++ [a]).Nodup → (∀ x ∈ Q ++ [a], x ∈ L) → cvx L Q → (ok Q a = true ↔ cvx L (Q ++ [a]))) → Q ≠ [] → (Q ++ l).Nodup → (∀ x ∈ Q ++ l, x ∈ L) → cvx L Q → (goB ok Q l = true ↔ ∀ m, cvx L (Q ++ l.take m))
  | [], Q, _, _, _, _, hc => by simp [goB, hc]
  | a :: l, Q, h, h0, hn, hm, hc => by
    have e : Q ++ a :: l = (Q ++ [a]) ++ l := by simp
    have hn1 : (Q ++ [a]).Nodup := by
      rw [e] at hn
      exact (List.nodup_append.mp hn).1
    have hm1 : ∀ x ∈ Q ++ [a], x ∈ L := fun x hx => hm x (by rw [e]; exact List.mem_append_left _ hx)
    have k := h Q a h0 hn1 hm1 hc
    unfold goB
    rw [Bool.and_eq_true, k]
    constructor
    · rintro ⟨c1, c2⟩ m
      cases m with
      | zero => simpa using hc
      | succ m =>
        have := (goB_cvx l (Q ++ [a]) h (by simp) (by rw [← e]; exact hn) (by rw [← e]; exact hm) c1).mp c2 m
        simpa using this
    · intro c
      have c1 : cvx L (Q ++ [a]) := by simpa using c 1
      refine ⟨c1, (goB_cvx l (Q ++ [a]) h (by simp) (by rw [← e]; exact hn) (by rw [← e]; exact hm) c1).mpr fun m => ?_⟩
      simpa using c (m + 1)
/-! least and greatest places -/
def plI (L : List Int) (x : Int) : Int := (L.idxOf x : Nat)
theorem maxI_facts {l : List Int} (h : l ≠ []) : (∀ y ∈ l, y ≤ maxI l) ∧ maxI l ∈ l := by
  match l, h with
  | n :: ns, _ =>
    obtain ⟨h1, h2, h3⟩ := foldl_max_ge ns n
    refine ⟨fun y hy => ?_, ?_⟩
    · rcases List.mem_cons.mp hy with rfl | hy
      · exact h1
      · exact h2 y hy
    · rcases h3 with h3 | h3
      · show ns.foldl max n ∈ _
        rw [h3]
        exact List.mem_cons_self
      · exact List.mem_cons_of_mem _ h3
theorem minI_facts {l : List Int} (h : l ≠ []) : (∀ y ∈ l, minI l ≤ y) ∧ minI l ∈ l := by
  match l, h with
  | n :: ns, _ =>
    obtain ⟨h1, h2, h3⟩ := foldl_min_le ns n
    refine ⟨fun y hy => ?_, ?_⟩
    · rcases List.mem_cons.mp hy with rfl | hy
      · exact h1
      · exact h2 y hy
    · rcases h3 with h3 | h3
      · show ns.foldl min n ∈ _
        rw [h3]
        exact List.mem_cons_self
      · exact List.mem_cons_of_mem _ h3
theorem maxI_snoc {l : List Int} {p : Int} (h : l ≠ []) : maxI (l ++ [p]) = max (maxI l) p := by
  match l, h with
  | n :: ns, _ =>
    show (ns ++ [p]).foldl max n = _
    rw [List.foldl_append]
    rfl
theorem minI_snoc {l : List Int} {p : Int} (h : l ≠ []) : minI (l ++ [p]) = min (minI l) p := by
  match l, h with
  | n :: ns, _ =>
    show (ns ++ [p]).foldl min n = _
    rw [List.foldl_append]
    rfl
theorem at_place {L : List Int} (hL : L.Nodup) {k : Int} (h0 : 0 ≤ k) (h1 : k < L.length) : ∃ t ∈ L, plI L t = k := by
  have hk : k.toNat < L.length := by omega
  refine ⟨L.getD k.toNat 0, ?_, ?_⟩
  · simp only [List.getD_eq_getElem?_getD, List.getElem?_eq_getElem hk]
    exact List.getElem_mem _
  · unfold plI
    rw [nodup_idx hL hk]
    omega
theorem pl_lt {L : List Int} {x : Int} (h : x ∈ L) : 0 ≤ plI L x ∧ plI L x < L.length := by
  have := List.idxOf_lt_length_iff.mpr h
  unfold plI
  omega
theorem pl_inj {L : List Int} {x y : Int} (hx : x ∈ L) (hy : y ∈ L) (h : plI L x = plI L y) : x = y := idx_inj hx hy (by unfold plI at h; omega)
/-- a list without hole is a stretch -/
theorem stretch {L Q : List Int} (h0 : Q ≠ []) (hm : ∀ x ∈ Q, x ∈ L) (hc : cvx L Q) {t : Int} (ht : t ∈ L) : t ∈ Q ↔ minI (Q.map (plI L)) ≤ plI L t ∧ plI L t ≤ maxI (Q.map (plI L)) := by
  have hne : Q.map (plI L) ≠ [] := by simpa using h0
  obtain ⟨a1, a2⟩ := minI_facts hne
  obtain ⟨b1, b2⟩ := maxI_facts hne
  constructor
  · intro h
    have := List.mem_map_of_mem (f := plI L) h
    exact ⟨a1 _ this, b1 _ this⟩
  · rintro ⟨h1, h2⟩
    obtain ⟨u, hu, eu⟩ := List.mem_map.mp a2
    obtain ⟨v, hv, ev⟩ := List.mem_map.mp b2
    by_cases e1 : plI L u = plI L t
    · rw [← pl_inj (hm u hu) ht e1]
      exact hu
    · by_cases e2 : plI L v = plI L t
      · rw [← pl_inj (hm v hv) ht e2]
        exact hv
      · refine hc u hu v hv t ht ?_ ?_ <;> unfold plI at * <;> omega
def ok1 (L : List Int) (Q : List Int) (a : Int) : Bool := decide (plI L a = minI (Q.map (plI L)) - 1) || decide (plI L a = maxI (Q.map (plI L)) + 1)
theorem ok1_cvx {L : List Int} (hL : L.Nodup) (Q : List Int) (a : Int) (h0 : Q ≠ []) (hn : (Q ++ [a]).Nodup) (hm : ∀ x ∈ Q ++ [a], x ∈ L) (hc : cvx L Q) : ok1 L Q a = true ↔ cvx L (Q ++ [a]) := by
  have hmQ : ∀ x ∈ Q, x ∈ L := fun x hx => hm x (List.mem_append_left _ hx)
  have ha : a ∈ L := hm a (by simp)
  have st := fun {t : Int} (ht : t ∈ L) => stretch h0 hmQ hc ht
  have naQ : a ∉ Q := fun h => by
    have := (List.nodup_append.mp hn).2.2 a h a (by simp)
    exact this rfl
  have hne : Q.map (plI L) ≠ [] := by simpa using h0
  obtain ⟨a1, a2⟩ := minI_facts hne
  obtain ⟨b1, b2⟩ := maxI_facts hne
  obtain ⟨u0, hu0, eu0⟩ := List.mem_map.mp a2
  obtain ⟨v0, hv0, ev0⟩ := List.mem_map.mp b2
  have out := fun h => naQ ((st ha).mpr h)
  have lohi : minI (Q.map (plI L)) ≤ maxI (Q.map (plI L)) := b1 _ a2
  obtain ⟨lo, hlo⟩ : ∃ lo, lo = minI (Q.map (plI L)) := ⟨_, rfl⟩
  obtain ⟨hi, hhi⟩ : ∃ hi, hi = maxI (Q.map (plI L)) := ⟨_, rfl⟩
  rw [← hlo, ← hhi] at st out lohi
  rw [← hlo] at eu0
  rw [← hhi] at ev0
  unfold ok1
  rw [← hlo, ← hhi]
  simp only [Bool.or_eq_true, decide_eq_true_eq]
  constructor
  · intro h u hu v hv t ht h1 h2
    rw [List.mem_append, List.mem_singleton] at hu hv ⊢
    have h1' : plI L u < plI L t := by unfold plI; omega
    have h2' : plI L t < plI L v := by unfold plI; omega
    rcases hu with hu | rfl <;> rcases hv with hv | rfl
    · exact .inl (hc u hu v hv t ht h1 h2)
    · have q := (st (hmQ u hu)).mp hu
      left
      rw [st ht]
      omega
    · have q := (st (hmQ v hv)).mp hv
      left
      rw [st ht]
      omega
    · omega
  · intro h
    refine Classical.byContradiction fun hno => ?_
    have pa := pl_lt ha
    have pu := pl_lt (hmQ u0 hu0)
    have pv := pl_lt (hmQ v0 hv0)
    by_cases hl : plI L a < lo
    · obtain ⟨t, ht, et⟩ := at_place hL (k := lo - 1) (by omega) (by omega)
      have := h a (by simp) u0 (List.mem_append_left _ hu0) t ht (by unfold plI at *; omega) (by unfold plI at *; omega)
      rw [List.mem_append, List.mem_singleton] at this
      rcases this with q | rfl
      · have := (st ht).mp q
        omega
      · omega
    · have hgt : hi < plI L a := by
        by_cases z : plI L a ≤ hi
        · exact (out ⟨by omega, z⟩).elim
        · omega
      obtain ⟨t, ht, et⟩ := at_place hL (k := hi + 1) (by omega) (by omega)
      have := h v0 (List.mem_append_left _ hv0) a (by simp) t ht (by unfold plI at *; omega) (by unfold plI at *; omega)
      rw [List.mem_append, List.mem_singleton] at this
      rcases this with q | rfl
      · have := (st ht).mp q
        omega
      · omega
theorem sub_len : ∀ (l m : List Int), l.Nodup → (∀ x ∈ l, x ∈ m) → l.length ≤ m.length
  | [], _, _, _ => by simp
  | a :: l, m, hn, h => by
    have ha := h a List.mem_cons_self
    have hp := (List.perm_cons_erase ha).length_eq
    have := sub_len l (m.erase a) (List.nodup_cons.mp hn).2 fun x hx => by
      have ne : x ≠ a := fun e => (List.nodup_cons.mp hn).1 (e ▸ hx)
      exact (List.mem_erase_of_ne ne).mpr (h x (List.mem_cons_of_mem _ hx))
    simp only [List.length_cons] at hp ⊢
    omega
/-- pigeons: as many places as from the least to the greatest, just where no hole is -/
theorem pigeon : ∀ (l : List Int) (lo : Int) (n : Nat), l.Nodup → (∀ x ∈ l, lo ≤ x ∧ x < lo + n) → l.length ≤ n ∧ (l.length = n → ∀ x, lo ≤ x → x < lo + n → x ∈ l) := by
  intro l lo n
  induction n generalizing l with
  | zero =>
    intro _ h
    cases l with
    | nil => exact ⟨by simp, fun _ x h1 h2 => by omega⟩
    | cons a l => have := h a List.mem_cons_self; omega
  | succ n ih =>
    intro hn h
    by_cases hm : (lo + n) ∈ l
    · have hp := List.perm_cons_erase hm
      have hn2 : (l.erase (lo + n)).Nodup := hn.erase _
      obtain ⟨q1, q2⟩ := ih (l.erase (lo + n)) hn2 fun x hx => by
        have hx1 := List.mem_of_mem_erase hx
        have := h x hx1
        have ne : x ≠ lo + n := fun e => by
          subst e
          exact (hn.not_mem_erase) hx
        omega
      have hl := hp.length_eq
      rw [List.length_cons] at hl
      refine ⟨by omega, fun e x h1 h2 => ?_⟩
      by_cases ex : x = lo + n
      · rw [ex]; exact hm
      · exact List.mem_of_mem_erase (q2 (by omega) x h1 (by omega))
    · obtain ⟨q1, q2⟩ := ih l hn fun x hx => by
        have := h x hx
        have ne : x ≠ lo + n := fun e => hm (e ▸ hx)
        omega
      exact ⟨by omega, fun e => by omega⟩
def ok2 (L : List Int) (Q : List Int) (a : Int) : Bool := decide (maxI ((Q ++ [a]).map (plI L)) - minI ((Q ++ [a]).map (plI L)) = ((Q ++ [a]).length : Int) - 1)
theorem nodup_pl {L Q : List Int} (hn : Q.Nodup) (hm : ∀ x ∈ Q, x ∈ L) : (Q.map (plI L)).Nodup := by
  induction Q with
  | nil => exact List.nodup_nil
  | cons a Q ih =>
    have h := List.nodup_cons.mp hn
    rw [List.map_cons, List.nodup_cons]
    refine ⟨fun hx => ?_, ih h.2 fun x hx => hm x (List.mem_cons_of_mem _ hx)⟩
    obtain ⟨y, hy, e⟩ := List.mem_map.mp hx
    exact h.1 (pl_inj (hm a List.mem_cons_self) (hm y (List.mem_cons_of_mem _ hy)) e.symm ▸ hy)
theorem ok2_cvx {L : List Int} (hL : L.Nodup) (Q : List Int) (a : Int) (hn : (Q ++ [a]).Nodup) (hm : ∀ x ∈ Q ++ [a], x ∈ L) : ok2 L Q a = true ↔ cvx L (Q ++ [a]) := by
  obtain ⟨P, hP⟩ : ∃ P, P = Q ++ [a] := ⟨_, rfl⟩
  unfold ok2
  rw [← hP] at hn hm ⊢
  have h0 : P ≠ [] := by rw [hP]; simp
  have hne : P.map (plI L) ≠ [] := by simpa using h0
  obtain ⟨a1, a2⟩ := minI_facts hne
  obtain ⟨b1, b2⟩ := maxI_facts hne
  have hnd := nodup_pl hn hm
  have lohi : minI (P.map (plI L)) ≤ maxI (P.map (plI L)) := b1 _ a2
  obtain ⟨n, en⟩ : ∃ n : Nat, (n : Int) = maxI (P.map (plI L)) - minI (P.map (plI L)) + 1 := ⟨(maxI (P.map (plI L)) - minI (P.map (plI L)) + 1).toNat, by omega⟩
  obtain ⟨p1, p2⟩ := pigeon (P.map (plI L)) (minI (P.map (plI L))) n hnd fun x hx => by
    have := a1 x hx
    have := b1 x hx
    omega
  rw [List.length_map] at p1 p2
  rw [decide_eq_true_eq]
  constructor
  · intro e u hu v hv t ht h1 h2
    have u1 := a1 _ (List.mem_map_of_mem (f := plI L) hu)
    have v1 := b1 _ (List.mem_map_of_mem (f := plI L) hv)
    have h1' : plI L u < plI L t := by unfold plI; omega
    have h2' : plI L t < plI L v := by unfold plI; omega
    have := p2 (by omega) (plI L t) (by omega) (by omega)
    obtain ⟨y, hy, ey⟩ := List.mem_map.mp this
    rw [← pl_inj (hm y hy) ht ey]
    exact hy
  · intro hc
    have le : n ≤ P.length := by
      have fill : ∀ k : Nat, k < n → minI (P.map (plI L)) + k ∈ P.map (plI L) := fun k hk => by
        obtain ⟨u, hu, eu⟩ := List.mem_map.mp a2
        obtain ⟨v, hv, ev⟩ := List.mem_map.mp b2
        have pu := pl_lt (hm u hu)
        have pv := pl_lt (hm v hv)
        obtain ⟨t, ht, et⟩ := at_place hL (k := minI (P.map (plI L)) + k) (by omega) (by omega)
        rw [← et]
        exact List.mem_map_of_mem ((stretch h0 hm hc ht).mpr (by omega))
      have nd : ((List.range n).map fun k : Nat => minI (P.map (plI L)) + (k : Int)).Nodup := by
        rw [List.nodup_iff_pairwise_ne, List.pairwise_map]
        exact List.nodup_range.imp fun h e => h (by omega)
      have sub : ∀ x ∈ (List.range n).map fun k : Nat => minI (P.map (plI L)) + (k : Int), x ∈ P.map (plI L) := fun x hx => by
        obtain ⟨k, hk, rfl⟩ := List.mem_map.mp hx
        exact fill k (by simpa using hk)
      have := sub_len _ _ nd sub
      simpa using this
    omega

end DL

noncomputable section
namespace DL
open PySem L2

/-! rankings that fall, taken from the ends -/
def pick : List Int → List Bool → List Int
  | L, [] => L
  | L, b :: bs => match b with
    | false => L.take 1 ++ pick (L.drop 1) bs
    | true => L.drop (L.length - 1) ++ pick L.dropLast bs
theorem snoc_of {α : Type} (L : List α) : L = [] ∨ ∃ K z, L = K ++ [z] := by
  rcases List.eq_nil_or_concat L with h | ⟨K, z, h⟩
  · exact .inl h
  · exact .inr ⟨K, z, by rw [h, List.concat_eq_append]⟩
theorem pick_nil {L : List Int} : pick L [] = L := rfl
theorem pick_false {a : Int} {L : List Int} {bs : List Bool} : pick (a :: L) (false :: bs) = a :: pick L bs := rfl
theorem pick_true {z : Int} {L : List Int} {bs : List Bool} : pick (L ++ [z]) (true :: bs) = z :: pick L bs := by
  show (L ++ [z]).drop ((L ++ [z]).length - 1) ++ pick (L ++ [z]).dropLast bs = _
  rw [List.dropLast_concat]
  simp
theorem pick_perm : ∀ (bs : List Bool) (L : List Int), (pick L bs).Perm L
  | [], L => .refl _
  | false :: bs, L => by
    show (L.take 1 ++ pick (L.drop 1) bs).Perm L
    have := (pick_perm bs (L.drop 1)).append_left (L.take 1)
    rwa [List.take_append_drop] at this
  | true :: bs, L => by
    show (L.drop (L.length - 1) ++ pick L.dropLast bs).Perm L
    have h1 := (pick_perm bs L.dropLast).append_left (L.drop (L.length - 1))
    refine h1.trans (List.perm_append_comm.trans ?_)
    rw [List.dropLast_eq_take, List.take_append_drop]
theorem idx_app {a : Int} {l m : List Int} (h : a ∈ l) : (l ++ m).idxOf a = l.idxOf a := by
  rw [List.idxOf_append, if_pos h]
theorem idx_last {z : Int} {l : List Int} (h : z ∉ l) : (l ++ [z]).idxOf z = l.length := by
  rw [List.idxOf_append, if_neg h]
  simp
theorem idx_ne' {a b : Int} {l : List Int} (h : a ≠ b) : (a :: l).idxOf b = l.idxOf b + 1 := by
  have : (a == b) = false := by simpa using h
  rw [List.idxOf_cons, this]
  rfl
/-- nothing goes ahead of two on both its sides -/
theorem pick_noV : ∀ (bs : List Bool) (L : List Int), L.Nodup → ∀ u ∈ L, ∀ t ∈ L, ∀ v ∈ L, L.idxOf u < L.idxOf t → L.idxOf t < L.idxOf v → ¬ ((pick L bs).idxOf t < (pick L bs).idxOf u ∧ (pick L bs).idxOf t < (pick L bs).idxOf v)
  | [], L, _, u, hu, t, ht, v, hv, h1, h2 => by
    rw [pick_nil]
    omega
  | false :: bs, [], _, u, hu, _, _, _, _, _, _ => by cases hu
  | false :: bs, a :: L, hn, u, hu, t, ht, v, hv, h1, h2 => by
    rw [pick_false]
    have hn := List.nodup_cons.mp hn
    intro ⟨g1, g2⟩
    by_cases et : a = t
    · subst et; simp at h1
    · by_cases eu : a = u
      · subst eu; simp at g1
      · by_cases ev : a = v
        · subst ev; simp at g2
        · rw [idx_ne' et, idx_ne' eu] at h1 g1
          rw [idx_ne' et, idx_ne' ev] at h2 g2
          exact pick_noV bs L hn.2 u ((List.mem_cons.mp hu).resolve_left fun e => eu e.symm) t ((List.mem_cons.mp ht).resolve_left fun e => et e.symm) v ((List.mem_cons.mp hv).resolve_left fun e => ev e.symm) (by omega) (by omega) ⟨by omega, by omega⟩
  | true :: bs, L, hn, u, hu, t, ht, v, hv, h1, h2 => by
    rcases snoc_of L with rfl | ⟨L, z, rfl⟩
    · cases hu
    · rw [pick_true]
      have hz : z ∉ L := fun h => by
        have := List.nodup_append.mp hn
        exact this.2.2 z h z List.mem_cons_self rfl
      have hn1 : L.Nodup := (List.nodup_append.mp hn).1
      have cs : ∀ x ∈ L ++ [z], x ≠ z → x ∈ L := fun x hx nx => by
        rcases List.mem_append.mp hx with h | h
        · exact h
        · exact absurd (by simpa using h) nx
      have lt : ∀ x ∈ L ++ [z], (L ++ [z]).idxOf x ≤ L.length := fun x hx => by
        have := List.idxOf_lt_length_iff.mpr hx
        simp at this
        omega
      intro ⟨g1, g2⟩
      by_cases et : z = t
      · subst et
        rw [idx_last hz] at h2
        have := lt v hv
        omega
      · by_cases eu : z = u
        · subst eu
          rw [idx_last hz] at h1
          have := lt t ht
          omega
        · by_cases ev : z = v
          · subst ev; simp at g2
          · have mu := cs u hu fun e => eu e.symm
            have mt := cs t ht fun e => et e.symm
            have mv := cs v hv fun e => ev e.symm
            rw [idx_app mu, idx_app mt] at h1
            rw [idx_app mt, idx_app mv] at h2
            rw [idx_ne' et, idx_ne' eu] at g1
            rw [idx_ne' et, idx_ne' ev] at g2
            exact pick_noV bs L hn1 u mu t mt v mv h1 h2 ⟨by omega, by omega⟩
theorem rev_ix {L : List Int} (hL : L.Nodup) {x : Int} (hx : x ∈ L) : L.reverse.idxOf x = L.length - 1 - L.idxOf x := by
  have hi := List.idxOf_lt_length_iff.mpr hx
  have e : L.getD (L.idxOf x) 0 = x := by
    simp only [List.getD_eq_getElem?_getD, List.getElem?_eq_getElem hi]
    exact List.getElem_idxOf hi
  have hr : L.reverse.Nodup := (List.reverse_perm L).nodup_iff.mpr hL
  have e2 : L.getD (L.idxOf x) 0 = L.reverse.getD (L.length - 1 - L.idxOf x) 0 := by
    simp only [List.getD_eq_getElem?_getD]
    rw [List.getElem?_reverse (by omega)]
    congr 2
    omega
  have := nodup_idx hr (i := L.length - 1 - L.idxOf x) (by simp; omega)
  rw [← e2, e] at this
  exact this
theorem pick_falls {L : List Int} (hL : L.Nodup) (bs : List Bool) : noV L (pick L bs).reverse := by
  intro u hu t ht v hv h1 h2 ⟨g1, g2⟩
  have p := pick_perm bs L
  have hq : (pick L bs).Nodup := p.nodup_iff.mpr hL
  have m : ∀ x ∈ L, x ∈ pick L bs := fun x hx => p.mem_iff.mpr hx
  rw [rev_ix hq (m u hu), rev_ix hq (m t ht)] at g1
  rw [rev_ix hq (m v hv), rev_ix hq (m t ht)] at g2
  have l1 := List.idxOf_lt_length_iff.mpr (m u hu)
  have l2 := List.idxOf_lt_length_iff.mpr (m t ht)
  have l3 := List.idxOf_lt_length_iff.mpr (m v hv)
  exact pick_noV bs L hL u hu t ht v hv h1 h2 ⟨by omega, by omega⟩
/-! bits and numbers -/
def valA : Nat → List Bool → Nat
  | c, [] => c
  | c, b :: bs => valA (2 * c + b.toNat) bs
theorem valA_acc : ∀ (bs : List Bool) (c : Nat), valA c bs = c * 2 ^ bs.length + valA 0 bs
  | [], c => by simp [valA]
  | b :: bs, c => by
    show valA (2 * c + b.toNat) bs = _ + valA (2 * 0 + b.toNat) bs
    rw [valA_acc bs (2 * c + b.toNat), valA_acc bs (2 * 0 + b.toNat), List.length_cons, Nat.pow_succ]
    simp only [Nat.mul_zero, Nat.zero_add, Nat.add_mul]
    have : 2 * c * 2 ^ bs.length = c * (2 ^ bs.length * 2) := by
      rw [Nat.mul_comm 2 c, Nat.mul_assoc, Nat.mul_comm 2]
    omega
theorem valA_lt : ∀ (bs : List Bool), valA 0 bs < 2 ^ bs.length
  | [] => by simp [valA]
  | b :: bs => by
    show valA (2 * 0 + b.toNat) bs < _
    rw [valA_acc, List.length_cons, Nat.pow_succ]
    have := valA_lt bs
    cases b <;> simp <;> omega
def bitsN : Nat → Nat → List Bool
  | 0, _ => []
  | k + 1, n => decide (2 ^ k ≤ n) :: bitsN k (n % 2 ^ k)
theorem bitsN_len : ∀ (k n : Nat), (bitsN k n).length = k
  | 0, _ => rfl
  | k + 1, n => by simp [bitsN, bitsN_len k]
theorem val_bits : ∀ (k n : Nat), n < 2 ^ k → valA 0 (bitsN k n) = n
  | 0, n, h => by simp at h; subst h; rfl
  | k + 1, n, h => by
    have hp : 0 < 2 ^ k := Nat.pow_pos (by decide)
    have h1 : n % 2 ^ k < 2 ^ k := Nat.mod_lt _ hp
    show valA (2 * 0 + (decide (2 ^ k ≤ n)).toNat) (bitsN k (n % 2 ^ k)) = n
    rw [valA_acc, bitsN_len, val_bits k _ h1]
    rw [Nat.pow_succ] at h
    by_cases c : 2 ^ k ≤ n
    · simp [c]
      have := Nat.mod_eq_sub_mod c
      rw [Nat.mod_eq_of_lt (by omega : n - 2 ^ k < 2 ^ k)] at this
      omega
    · simp [c]
      exact Nat.mod_eq_of_lt (by omega)
theorem bits_val : ∀ (bs : List Bool), bitsN bs.length (valA 0 bs) = bs
  | [] => rfl
  | b :: bs => by
    have h := valA_lt bs
    have e : valA 0 (b :: bs) = b.toNat * 2 ^ bs.length + valA 0 bs := by
      show valA (2 * 0 + b.toNat) bs = _
      rw [valA_acc]
      simp
    show decide (2 ^ bs.length ≤ valA 0 (b :: bs)) :: bitsN bs.length (valA 0 (b :: bs) % 2 ^ bs.length) = _
    have e2 : valA 0 (b :: bs) % 2 ^ bs.length = valA 0 bs := by
      rw [e, Nat.mul_comm, Nat.mul_add_mod, Nat.mod_eq_of_lt h]
    rw [e2, bits_val bs, e]
    cases b <;> simp <;> omega
theorem pick_inj : ∀ (bs cs : List Bool) (L : List Int), L.Nodup → bs.length = cs.length → bs.length < L.length → pick L bs = pick L cs → bs = cs
  | [], [], _, _, _, _, _ => rfl
  | [], _ :: _, _, _, h, _, _ => by cases h
  | _ :: _, [], _, _, h, _, _ => by cases h
  | b :: bs, c :: cs, L, hn, hl, h2, e => by
    simp at hl h2
    match L, hn, h2, e with
    | a :: x :: M, hn, h2, e =>
      obtain ⟨K, z, eK⟩ : ∃ K z, a :: x :: M = K ++ [z] := by
        rcases snoc_of (a :: x :: M) with h | ⟨K, z, h⟩
        · cases h
        · exact ⟨K, z, h⟩
      have hne : a ≠ z := by
        rintro rfl
        cases K with
        | nil => simp at eK
        | cons k K =>
          simp at eK
          obtain ⟨rfl, eK⟩ := eK
          have := (List.nodup_cons.mp hn).1
          rw [eK] at this
          exact this (by simp)
      have p1 : ∀ ds, pick (a :: x :: M) (false :: ds) = a :: pick (x :: M) ds := fun ds => pick_false
      have p2 : ∀ ds, pick (a :: x :: M) (true :: ds) = z :: pick K ds := fun ds => by rw [eK]; exact pick_true
      have hK : K.Nodup := by rw [eK] at hn; exact (List.nodup_append.mp hn).1
      have lK : K.length = M.length + 1 := by
        have := congrArg List.length eK
        simp at this
        omega
      simp at h2
      cases b <;> cases c
      · rw [p1, p1] at e
        injection e with _ e
        rw [pick_inj bs cs (x :: M) (List.nodup_cons.mp hn).2 hl (by simp; omega) e]
      · rw [p1, p2] at e
        injection e with e _
        exact absurd e hne
      · rw [p1, p2] at e
        injection e with e _
        exact absurd e.symm hne
      · rw [p2, p2] at e
        injection e with _ e
        rw [pick_inj bs cs K hK hl (by omega) e]
    | [a], _, h2, _ => simp at h2

end DL

noncomputable section
namespace DL
open PySem L2
def e_cut_down_1 : M R := fOp (lift2 inO) (fVar 2) (fVar 0)
abbrev l_cut_down_1 : M R := fLc (fLstI (fVar 1)) (bName 2) fYes (e_cut_down_1) [2]
def t_cut_down_2 : M Bool := fB (fOp (lift2 inO) (fVar 2) (fVar 1))
def e_cut_down_3 : M R := fVar 2
abbrev l_cut_down_3 : M R := fLc (fLstI (fVar 0)) (bName 2) (t_cut_down_2) (e_cut_down_3) [2]
def p_cut_down : DSt → Flow := fseq (fDrop (fUser F_must_be_ranking (fCons (fVar 0) fNil))) (fseq (fIfS (fOr (fB (fOp (lift2 ltO) (fCall lenO (pCons (fVar 1) fNil)) (fC (.int 1)))) (fNot (fB (fCall allO (pCons (fLc (fLstI (fVar 1)) (bName 2) fYes (e_cut_down_1) [2]) fNil))))) (fRaise "NoNames") fnext) (fRet (fLc (fLstI (fVar 0)) (bName 2) (t_cut_down_2) (e_cut_down_3) [2])))
def F_cut_down : List R → Pw → FRes := runF 3 2 p_cut_down
/-! cutting down -/
def cutL (r some : List Int) : List Int := r.filter fun x => decide (x ∈ some)
theorem mem_cut {r some : List Int} {x : Int} : x ∈ cutL r some ↔ x ∈ r ∧ x ∈ some := by simp [cutL]
theorem idx_ne {a b : Int} {l : List Int} (h : a ≠ b) : (a :: l).idxOf b = l.idxOf b + 1 := by
  have : (a == b) = false := by simpa using h
  rw [List.idxOf_cons, this]
  rfl
theorem cut_idx : ∀ {r : List Int} {p : Int → Bool} {a b : Int}, r.Nodup → a ∈ r → b ∈ r → p a = true → p b = true → ((r.filter p).idxOf a < (r.filter p).idxOf b ↔ r.idxOf a < r.idxOf b)
  | c :: r, p, a, b, hn, ha, hb, pa, pb => by
    have hn' := (List.nodup_cons.mp hn)
    by_cases hca : c = a
    · subst hca
      by_cases hcb : c = b
      · subst hcb; simp
      · have e1 : (c :: r).filter p = c :: r.filter p := by simp [pa]
        rw [e1, List.idxOf_cons_self, List.idxOf_cons_self, idx_ne hcb, idx_ne hcb]
        simp
    · by_cases hcb : c = b
      · subst hcb
        have e1 : (c :: r).filter p = c :: r.filter p := by simp [pb]
        rw [e1, List.idxOf_cons_self, List.idxOf_cons_self]
        simp
      · have ha' : a ∈ r := (List.mem_cons.mp ha).resolve_left fun e => hca e.symm
        have hb' : b ∈ r := (List.mem_cons.mp hb).resolve_left fun e => hcb e.symm
        have ih := cut_idx (p := p) hn'.2 ha' hb' pa pb
        rw [idx_ne hca, idx_ne hcb]
        by_cases pc : p c = true
        · have e1 : (c :: r).filter p = c :: r.filter p := by simp [pc]
          rw [e1, idx_ne hca, idx_ne hcb]
          omega
        · have e1 : (c :: r).filter p = r.filter p := by simp [pc]
          rw [e1]
          omega
theorem cut_order {r some : List Int} {a b : Int} (hn : r.Nodup) (ha : a ∈ cutL r some) (hb : b ∈ cutL r some) : (cutL r some).idxOf a < (cutL r some).idxOf b ↔ r.idxOf a < r.idxOf b :=
  cut_idx hn (mem_cut.mp ha).1 (mem_cut.mp hb).1 (by simpa using (mem_cut.mp ha).2) (by simpa using (mem_cut.mp hb).2)
theorem cut_nodup {r some : List Int} (hn : r.Nodup) : (cutL r some).Nodup := hn.sublist List.filter_sublist
theorem cut_rank {r some : List Int} (h : Rank r) (h0 : some ≠ []) (hs : ∀ x ∈ some, x ∈ r) : Rank (cutL r some) := by
  obtain ⟨a, l, rfl⟩ := List.exists_cons_of_ne_nil h0
  refine ⟨cut_nodup h.1, fun x hx => h.2.1 x (mem_cut.mp hx).1, ?_, Nat.le_trans (List.length_filter_le _ _) h.2.2.2⟩
  exact List.length_pos_of_mem (mem_cut.mpr ⟨hs a List.mem_cons_self, List.mem_cons_self⟩)
theorem cut_perm {r q some some' : List Int} (h : r.Nodup) (hp : q.Perm r) (hm : ∀ x, x ∈ some' ↔ x ∈ some) : (cutL q some').Perm (cutL r some) := by
  refine (List.perm_ext_iff_of_nodup (cut_nodup (hp.nodup_iff.mpr h)) (cut_nodup h)).mpr fun x => ?_
  rw [mem_cut, mem_cut, hp.mem_iff, hm]
theorem cut_cut {r some less : List Int} (h : ∀ x ∈ less, x ∈ some) : cutL (cutL r some) less = cutL r less := by
  unfold cutL
  rw [List.filter_filter]
  refine List.filter_congr fun x _ => ?_
  by_cases hx : x ∈ less
  · simp [hx, h x hx]
  · simp [hx]
theorem cut_down_ok {r some : List Int} {w : Pw} (h : Rank r) (h0 : some ≠ []) (hl : some.length ≤ 1000) (hs : ∀ x ∈ some, x ∈ r) : F_cut_down [.val (.list ((r).map .int)), .val (.list ((some).map .int))] w = .ok (.new ((cutL r some).map .int)) w := by
  have hr := h.2.2.2
  have e1 : l_cut_down_1 ⟨[.val (.list ((r).map .int)), .val (.list ((some).map .int)), .no], w⟩ = .ok (.new (some.map fun x => .bool (decide (x ∈ r)))) ⟨[.val (.list ((r).map .int)), .val (.list ((some).map .int)), .no], w⟩ := by
    refine lc_all (fun a : Int => ⟨[.val (.list ((r).map .int)), .val (.list ((some).map .int)), .val (.int (a))], w⟩) _ (f := .int) (l := some) (by simp -implicitDefEqProofs) (by omega) rfl (fun a _ => by rfl) (fun a _ => by rfl) (fun a _ => ?_)
    unfold e_cut_down_1
    simp -implicitDefEqProofs
  have e2 : l_cut_down_3 ⟨[.val (.list ((r).map .int)), .val (.list ((some).map .int)), .no], w⟩ = .ok (.new ((cutL r some).map .int)) ⟨[.val (.list ((r).map .int)), .val (.list ((some).map .int)), .no], w⟩ := by
    refine lc_gen (fun a : Int => ⟨[.val (.list ((r).map .int)), .val (.list ((some).map .int)), .val (.int (a))], w⟩) (fun x => decide (x ∈ some)) .int (f := .int) (l := r) (by simp -implicitDefEqProofs) (by omega) rfl (fun a _ => by rfl) (fun a _ => by rfl) (fun a _ => ?_) (fun a _ _ => ?_)
    · unfold t_cut_down_2
      simp -implicitDefEqProofs
    · unfold e_cut_down_3
      simp -implicitDefEqProofs
  have e3 : (some.map fun x : Int => decide (x ∈ r)).all id = true := by simpa using hs
  have hpos : 0 < some.length := List.length_pos_iff.mpr h0
  have h1 : ¬ ((some.length : Int) < 1) := by omega
  unfold F_cut_down p_cut_down
  simp only [x_runF]
  simp -implicitDefEqProofs [must_ranking_ok h, e1, e2, e3, h0, h1, boolsD_map']

end DL

noncomputable section
namespace DL
open PySem L2

/-! what falls is taken from the ends -/
theorem pick_of : ∀ (n : Nat) (L q : List Int), L.length = n + 1 → L.Nodup → q.Perm L → (∀ u ∈ L, ∀ t ∈ L, ∀ v ∈ L, L.idxOf u < L.idxOf t → L.idxOf t < L.idxOf v → ¬ (q.idxOf t < q.idxOf u ∧ q.idxOf t < q.idxOf v)) → ∃ bs : List Bool, bs.length = n ∧ q = pick L bs
  | 0, L, q, hl, _, hp, _ => by
    obtain ⟨x, rfl⟩ := List.length_eq_one_iff.mp hl
    exact ⟨[], rfl, List.perm_singleton.mp hp⟩
  | n + 1, L, q, hl, hn, hp, h => by
    have hq : q.Nodup := hp.nodup_iff.mpr hn
    match q, hp, hq, h with
    | [], hp, _, _ => have := hp.length_eq; simp at this; omega
    | t :: q, hp, hq, h =>
      have htL : t ∈ L := hp.mem_iff.mp List.mem_cons_self
      have hq' := List.nodup_cons.mp hq
      match L, hl, hn, hp, h, htL with
      | a :: M, hl, hn, hp, h, htL =>
        have hn' := List.nodup_cons.mp hn
        by_cases ea : t = a
        · subst ea
          have hp' : q.Perm M := List.perm_cons t |>.mp hp
          obtain ⟨bs, hb, e⟩ := pick_of n M q (by simpa using hl) hn'.2 hp' (by
            intro u hu s hs v hv h1 h2 h3
            have nu : t ≠ u := fun e => hn'.1 (e ▸ hu)
            have ns : t ≠ s := fun e => hn'.1 (e ▸ hs)
            have nv : t ≠ v := fun e => hn'.1 (e ▸ hv)
            refine h u (List.mem_cons_of_mem _ hu) s (List.mem_cons_of_mem _ hs) v (List.mem_cons_of_mem _ hv) ?_ ?_ ⟨?_, ?_⟩
            · rw [idx_ne' nu, idx_ne' ns]; omega
            · rw [idx_ne' nv, idx_ne' ns]; omega
            · rw [idx_ne' nu, idx_ne' ns]; omega
            · rw [idx_ne' nv, idx_ne' ns]; omega)
          exact ⟨false :: bs, by simp [hb], by rw [pick_false, e]⟩
        · obtain ⟨K, z, eK⟩ : ∃ K z, a :: M = K ++ [z] := (snoc_of (a :: M)).resolve_left (by simp)
          rw [eK] at hn hp h htL hl
          have hzK : z ∉ K := fun h => (List.nodup_append.mp hn).2.2 z h z List.mem_cons_self rfl
          by_cases ez : t = z
          · subst ez
            have hp' : q.Perm K := by
              have := hp.trans (List.perm_append_comm (l₁ := K) (l₂ := [t]))
              exact (List.perm_cons t).mp this
            obtain ⟨bs, hb, e⟩ := pick_of n K q (by simpa using hl) (List.nodup_append.mp hn).1 hp' (by
              intro u hu s hs v hv h1 h2 h3
              have nu : t ≠ u := fun e => hzK (e ▸ hu)
              have ns : t ≠ s := fun e => hzK (e ▸ hs)
              have nv : t ≠ v := fun e => hzK (e ▸ hv)
              refine h u (List.mem_append_left _ hu) s (List.mem_append_left _ hs) v (List.mem_append_left _ hv) ?_ ?_ ⟨?_, ?_⟩
              · rw [idx_app hu, idx_app hs]; omega
              · rw [idx_app hv, idx_app hs]; omega
              · rw [idx_ne' nu, idx_ne' ns]; omega
              · rw [idx_ne' nv, idx_ne' ns]; omega)
            exact ⟨true :: bs, by simp [hb], by rw [eK, pick_true, e]⟩
          · exfalso
            have htK : t ∈ K := (List.mem_append.mp htL).resolve_right (by simpa using ez)
            have mz : z ∈ K ++ [z] := by simp
            have ma : a ∈ K ++ [z] := by rw [← eK]; exact List.mem_cons_self
            refine h a ma t htL z mz ?_ ?_ ⟨?_, ?_⟩
            · rw [← eK, List.idxOf_cons_self, idx_ne' (Ne.symm ea)]; omega
            · rw [idx_last hzK, idx_app htK]; exact List.idxOf_lt_length_iff.mpr htK
            · rw [List.idxOf_cons_self, idx_ne' ea]; omega
            · rw [List.idxOf_cons_self, idx_ne' ez]; omega
theorem falls_pick {L r : List Int} (hL : L.Nodup) (h0 : 0 < L.length) (hp : r.Perm L) (h : noV L r) : ∃ bs : List Bool, bs.length + 1 = L.length ∧ r = (pick L bs).reverse := by
  have hr : r.Nodup := hp.nodup_iff.mpr hL
  have hrr : r.reverse.Nodup := (List.reverse_perm r).nodup_iff.mpr hr
  obtain ⟨bs, hb, e⟩ := pick_of (L.length - 1) L r.reverse (by omega) hL ((List.reverse_perm r).trans hp) (by
    intro u hu t ht v hv h1 h2 ⟨g1, g2⟩
    have m : ∀ x ∈ L, x ∈ r := fun x hx => hp.mem_iff.mpr hx
    rw [rev_ix hr (m u hu), rev_ix hr (m t ht)] at g1
    rw [rev_ix hr (m v hv), rev_ix hr (m t ht)] at g2
    exact h u hu t ht v hv h1 h2 ⟨by omega, by omega⟩)
  exact ⟨bs, by omega, by rw [← e, List.reverse_reverse]⟩
/-- cut down it falls still -/
theorem noV_cut {L r some : List Int} (hL : L.Nodup) (hp : r.Perm L) (h : noV L r) : noV (cutL L some) (cutL r some) := by
  have hr : r.Nodup := hp.nodup_iff.mpr hL
  have m : ∀ x, x ∈ cutL L some → x ∈ cutL r some := fun x hx => by
    rw [mem_cut] at hx ⊢
    exact ⟨hp.mem_iff.mpr hx.1, hx.2⟩
  intro u hu t ht v hv h1 h2 ⟨g1, g2⟩
  rw [cut_order hL hu ht] at h1
  rw [cut_order hL ht hv] at h2
  rw [cut_order hr (m u hu) (m t ht)] at g1
  rw [cut_order hr (m v hv) (m t ht)] at g2
  exact h u (mem_cut.mp hu).1 t (mem_cut.mp ht).1 v (mem_cut.mp hv).1 h1 h2 ⟨g1, g2⟩
/-- three names show it -/
theorem noV_three {L r T : List Int} {u t v : Int} (hL : L.Nodup) (hp : r.Perm L) (hu : u ∈ L) (ht : t ∈ L) (hv : v ∈ L) (mu : u ∈ T) (mt : t ∈ T) (mv : v ∈ T) (h1 : L.idxOf u < L.idxOf t) (h2 : L.idxOf t < L.idxOf v) (h : noV (cutL L T) (cutL r T)) : ¬ (r.idxOf u < r.idxOf t ∧ r.idxOf v < r.idxOf t) := by
  have hr : r.Nodup := hp.nodup_iff.mpr hL
  have a1 := mem_cut.mpr ⟨hu, mu⟩
  have a2 := mem_cut.mpr ⟨ht, mt⟩
  have a3 := mem_cut.mpr ⟨hv, mv⟩
  have b1 := mem_cut.mpr ⟨hp.mem_iff.mpr hu, mu⟩
  have b2 := mem_cut.mpr ⟨hp.mem_iff.mpr ht, mt⟩
  have b3 := mem_cut.mpr ⟨hp.mem_iff.mpr hv, mv⟩
  have := h u a1 t a2 v a3 ((cut_order hL a1 a2).mpr h1) ((cut_order hL a2 a3).mpr h2)
  rwa [cut_order hr b1 b2, cut_order hr b3 b2] at this

end DL

noncomputable section
namespace DL
open PySem L2
def p_is_line : DSt → Flow := fRet (fUser F_is_ranking (fCons (fVar 0) fNil))
def F_is_line : List R → Pw → FRes := runF 1 1 p_is_line
def p_must_be_line : DSt → Flow := fIfS (fNot (fB (fUser F_is_line (fCons (fVar 0) fNil)))) (fRaise "NoLine") fnext
def F_must_be_line : List R → Pw → FRes := runF 1 1 p_must_be_line
def p_must_be_on : DSt → Flow := fseq (fDrop (fUser F_must_be_line (fCons (fVar 0) fNil))) (fseq (fDrop (fUser F_must_be_ranking (fCons (fVar 1) fNil))) (fIfS (fB (fOp (lift2 neO) (fCall sortedO (pCons (fVar 0) fNil)) (fCall sortedO (pCons (fVar 1) fNil)))) (fRaise "NoFit") fnext))
def F_must_be_on : List R → Pw → FRes := runF 2 2 p_must_be_on
def b_does_fall_1 : DSt → Flow := fseq (fSet 5 (fIndex (fVar 0) (fVar 4))) (fseq (fIfS (fAnd (fB (fOp (lift2 neO) (fVar 5) (fOp (lift2 subO) (fVar 2) (fC (.int 1))))) (fB (fOp (lift2 neO) (fVar 5) (fOp (lift2 addO) (fVar 3) (fC (.int 1)))))) (fRet (fC (.bool false))) fnext) (fseq (fSet 2 (fCall minO (pCons (fVar 2) (pCons (fVar 5) fNil)))) (fSet 3 (fCall maxO (pCons (fVar 3) (pCons (fVar 5) fNil))))))
abbrev o_does_fall_1 : List PyData → DSt → Flow := loopF (bName 4) b_does_fall_1
def p_does_fall : DSt → Flow := fseq (fSet 2 (fIndex (fVar 0) (fOp (lift2 ixO) (fVar 1) (fC (.int 0))))) (fseq (fSet 3 (fVar 2)) (fseq (fFor (fLstI (fSlice (fVar 1) (fPart (fC (.int 1))) fNoPart)) (bName 4) b_does_fall_1) (fRet (fC (.bool true)))))
def F_does_fall : List R → Pw → FRes := runF 6 2 p_does_fall
def p_falls : DSt → Flow := fseq (fDrop (fUser F_must_be_on (fCons (fVar 0) (fCons (fVar 1) fNil)))) (fRet (fUser F_does_fall (fCons (fVar 0) (fCons (fVar 1) fNil))))
def F_falls : List R → Pw → FRes := runF 2 2 p_falls
def b_law_falls_1 : DSt → Flow := fseq (fDrop (fApp 2 (fIndex (fVar 0) (fVar 3)))) (fIfS (fB (fOp (lift2 neO) (fOp (lift2 subO) (fCall maxO (pCons (fVar 2) fNil)) (fCall minO (pCons (fVar 2) fNil))) (fOp (lift2 subO) (fCall lenO (pCons (fVar 2) fNil)) (fC (.int 1))))) (fRet (fC (.bool false))) fnext)
abbrev o_law_falls_1 : List PyData → DSt → Flow := loopF (bName 3) b_law_falls_1
def p_law_falls : DSt → Flow := fseq (fSet 2 (fLst fNil)) (fseq (fFor (fLstI (fVar 1)) (bName 3) b_law_falls_1) (fRet (fC (.bool true))))
def F_law_falls : List R → Pw → FRes := runF 4 2 p_law_falls
def c_law_falling_1 : M Bool := fB (fOp (lift2 neO) (fVar 2) (fLst fNil))
def b_law_falling_2 : DSt → Flow := fDrop (fApp 3 (fPopAt 2 (fOp (lift2 mulO) (fOp (lift2 subO) (fCall lenO (pCons (fVar 2) fNil)) (fC (.int 1))) (fUser F_law_draw (fCons (fVar 0) (fCons (fC (.int 2)) fNil))))))
abbrev o_law_falling_2 : DSt → Flow := whileF c_law_falling_1 b_law_falling_2 10000
def p_law_falling : DSt → Flow := fseq (fSet 2 (fCall listO (pCons (fVar 1) fNil))) (fseq (fSet 3 (fLst fNil)) (fseq (whileF c_law_falling_1 b_law_falling_2 10000) (fRet (fUn (lift1 revO) (fVar 3)))))
def F_law_falling : List R → Pw → FRes := runF 4 2 p_law_falling
theorem must_line_ok {ns : List Int} {w : Pw} (h : Rank ns) : F_must_be_line [.val (.list (ns.map .int))] w = .ok (.val .none) w := by
  have e : F_is_line [.val (.list (ns.map .int))] w = .ok (.val (.bool true)) w := by
    unfold F_is_line p_is_line
    simp only [x_runF]
    simp -implicitDefEqProofs [is_ranking_ok h]
  unfold F_must_be_line p_must_be_line
  simp only [x_runF]
  simp -implicitDefEqProofs [e]
theorem must_on_ok {L r : List Int} {w : Pw} (hL : Rank L) (hp : r.Perm L) : F_must_be_on [.val (.list (L.map .int)), .val (.list (r.map .int))] w = .ok (.val .none) w := by
  unfold F_must_be_on p_must_be_on
  simp only [x_runF]
  simp -implicitDefEqProofs [must_line_ok hL, must_ranking_ok (hL.perm hp), sortI_perm_eq hp]
theorem goB_foldS {β : Type} {ok : List Int → Int → Bool} {step : β → Int → Sum β R} {st : List Int → β} {r : R} : ∀ (l Q : List Int), (∀ Q a, Q ≠ [] → step (st Q) a = if ok Q a = true then .inl (st (Q ++ [a])) else .inr r) → Q ≠ [] → foldS step (st Q) l = if goB ok Q l = true then .inl (st (Q ++ l)) else .inr r
  | [], Q, _, _ => by simp [foldS, goB]
  | a :: l, Q, h, h0 => by
    have ih := goB_foldS l (Q ++ [a]) h (by simp)
    unfold foldS goB
    rw [h Q a h0]
    cases k : ok Q a with
    | true =>
      simp only [if_true, Bool.true_and]
      rw [ih]
      simp
    | false => simp
/-- falls or not, decided -/
def fallB (L r : List Int) : Bool := @decide (noV L r) (Classical.propDecidable _)
theorem fallB_iff {L r : List Int} : fallB L r = true ↔ noV L r := by unfold fallB; simp
theorem cvx_one {L : List Int} {x : Int} : cvx L [x] := by
  intro u hu v hv t ht h1 h2
  simp at hu hv
  subst hu hv
  omega
theorem goB_fall {L r : List Int} {x : Int} {l : List Int} {ok : List Int → Int → Bool} (hL : L.Nodup) (hp : r.Perm L) (hr : r = x :: l) (h : ∀ (Q : List Int) (a : Int), Q ≠ [] → (Q ++ [a]).Nodup → (∀ x ∈ Q ++ [a], x ∈ L) → cvx L Q → (ok Q a = true ↔ cvx L (Q ++ [a]))) : goB ok [x] l = fallB L r := by
  rw [Bool.eq_iff_iff, fallB_iff, noV_cvx hp.symm, hr]
  have hn : ([x] ++ l).Nodup := by
    have := hp.nodup_iff.mpr hL
    rw [hr] at this
    exact this
  have hm : ∀ y ∈ [x] ++ l, y ∈ L := fun y hy => hp.mem_iff.mp (by rw [hr]; exact hy)
  rw [goB_cvx l [x] h (by simp) hn hm cvx_one]
  constructor
  · intro k m
    cases m with
    | zero =>
      intro u hu
      simp at hu
    | succ m => simpa using k m
  · intro k m
    simpa using k (m + 1)
theorem does_fall_ok {L r : List Int} {w : Pw} (hL : Rank L) (hp : r.Perm L) : F_does_fall [.val (.list (L.map .int)), .val (.list (r.map .int))] w = .ok (.val (.bool (fallB L r))) w := by
  obtain ⟨x, l, hr⟩ : ∃ x l, r = x :: l := by
    cases r with
    | nil => have := hp.length_eq; have := hL.2.2.1; simp at *; omega
    | cons x l => exact ⟨x, l, rfl⟩
  have hx : x ∈ L := hp.mem_iff.mp (by rw [hr]; simp)
  have hl : ∀ y ∈ l, y ∈ L := fun y hy => hp.mem_iff.mp (by rw [hr]; exact List.mem_cons_of_mem _ hy)
  have key := loopS (b := bName 4) (p := b_does_fall_1) (f := .int) (l := l) (s := ⟨[.val (.list (L.map .int)), .val (.list (r.map .int)), .val (.int (plI L x)), .val (.int (plI L x)), .no, .no], w⟩) (x := (plI L x, plI L x))
    (fun (s : Int × Int) a => if (decide (plI L a = s.1 - 1) || decide (plI L a = s.2 + 1)) = true then .inl (min s.1 (plI L a), max s.2 (plI L a)) else .inr (.val (.bool false)))
    (fun z s => ∃ v4 v5, s = ⟨[.val (.list (L.map .int)), .val (.list (r.map .int)), .val (.int z.1), .val (.int z.2), v4, v5], w⟩) (fun _ s => s.w = w) ⟨_, _, rfl⟩ (by
      rintro a ha ⟨lo, hi⟩ s ⟨v4, v5, rfl⟩
      have hi' := idxO_mem (hl a ha)
      unfold b_does_fall_1
      by_cases h1 : plI L a = lo - 1
      · have e1 : ((L.idxOf a : Nat) : Int) = lo - 1 := h1
        refine ⟨fun y e => ?_, fun q e => ?_⟩
        · simp [h1] at e
          subst e
          simp -implicitDefEqProofs [hi', e1]
          constructor <;> split <;> omega
        · simp [h1] at e
      · by_cases h2 : plI L a = hi + 1
        · have e2 : ((L.idxOf a : Nat) : Int) = hi + 1 := h2
          refine ⟨fun y e => ?_, fun q e => ?_⟩
          · simp [h2] at e
            subst e
            simp -implicitDefEqProofs [hi', e2]
            constructor <;> split <;> omega
          · simp [h2] at e
        · have e1 : ¬ ((L.idxOf a : Nat) : Int) = lo - 1 := h1
          have e2 : ¬ ((L.idxOf a : Nat) : Int) = hi + 1 := h2
          refine ⟨fun y e => ?_, fun q e => ?_⟩
          · simp [h1, h2] at e
          · simp [h1, h2] at e
            subst e
            simp -implicitDefEqProofs [hi', e1, e2])
  have ef : foldS _ (plI L x, plI L x) l = _ := goB_foldS (ok := ok1 L) (st := fun Q => (minI (Q.map (plI L)), maxI (Q.map (plI L)))) (r := .val (.bool false)) (step := fun (s : Int × Int) a => if (decide (plI L a = s.1 - 1) || decide (plI L a = s.2 + 1)) = true then .inl (min s.1 (plI L a), max s.2 (plI L a)) else .inr (.val (.bool false))) l [x] (fun Q a h0 => by
    have hne : Q.map (plI L) ≠ [] := by simpa using h0
    simp only [List.map_append, List.map_cons, List.map_nil, minI_snoc hne, maxI_snoc hne]
    rfl) (by simp)
  rw [goB_fall hL.1 hp hr fun Q a h0 hn hm hc => ok1_cvx hL.1 Q a h0 hn hm hc] at ef
  rw [ef] at key
  have ix := idxO_mem hx
  have at0 : atI (r.map PyData.int) 0 = some (.int x) := by rw [hr]; simp
  have cu : cutI r (some 1) none = l := by
    rw [hr]
    exact cut_from (k := 1)
  unfold F_does_fall p_does_fall
  simp only [x_runF]
  cases k : fallB L r with
  | true =>
    obtain ⟨s', e, v4, v5, rfl⟩ := key.1 _ (by rw [k]; rfl)
    have e' : loopF (bName 4) b_does_fall_1 (l.map .int) ⟨[.val (.list (L.map .int)), .val (.list (r.map .int)), .val (.int ((L.idxOf x : Nat) : Int)), .val (.int ((L.idxOf x : Nat) : Int)), .no, .no], w⟩ = _ := e
    simp -implicitDefEqProofs [at0, -atI_0, ix, cutD_map, cu, e']
  | false =>
    obtain ⟨s', e, hw⟩ := key.2 _ (by rw [k]; rfl)
    have e' : loopF (bName 4) b_does_fall_1 (l.map .int) ⟨[.val (.list (L.map .int)), .val (.list (r.map .int)), .val (.int ((L.idxOf x : Nat) : Int)), .val (.int ((L.idxOf x : Nat) : Int)), .no, .no], w⟩ = _ := e
    simp -implicitDefEqProofs [at0, -atI_0, ix, cutD_map, cu, e', hw]
theorem falls_ok {L r : List Int} {w : Pw} (hL : Rank L) (hp : r.Perm L) : F_falls [.val (.list (L.map .int)), .val (.list (r.map .int))] w = .ok (.val (.bool (fallB L r))) w := by
  unfold F_falls p_falls
  simp only [x_runF]
  simp -implicitDefEqProofs [must_on_ok hL hp, does_fall_ok hL hp]
theorem law_falls_ok {L r : List Int} {w : Pw} (hL : Rank L) (hp : r.Perm L) : F_law_falls [.val (.list (L.map .int)), .val (.list (r.map .int))] w = .ok (.val (.bool (fallB L r))) w := by
  obtain ⟨x, l, hr⟩ : ∃ x l, r = x :: l := by
    cases r with
    | nil => have := hp.length_eq; have := hL.2.2.1; simp at *; omega
    | cons x l => exact ⟨x, l, rfl⟩
  have rl : r.length ≤ 10 := by rw [hp.length_eq]; exact hL.2.2.2
  have rm : ∀ y ∈ r, y ∈ L := fun y hy => hp.mem_iff.mp hy
  have key := loopSi (b := bName 3) (p := b_law_falls_1) (f := .int) (l := r) (s := ⟨[.val (.list (L.map .int)), .val (.list (r.map .int)), .own [], .no], w⟩) (x := ([] : List Int)) (fun Q a => if ok2 L Q a = true then .inl (Q ++ [a]) else .inr (.val (.bool false)))
    (fun i Q s => Q.length = i ∧ ∃ v3, s = ⟨[.val (.list (L.map .int)), .val (.list (r.map .int)), .own ((Q.map (plI L)).map .int), v3], w⟩) (fun _ s => s.w = w) ⟨rfl, _, rfl⟩ (by
      rintro i a hi ha Q s ⟨rfl, v3, rfl⟩
      have hir : Q.length < r.length := (List.getElem?_eq_some_iff.mp hi).1
      have ix := idxO_mem (rm a ha)
      have hlt : ltS Q.length := size_lt (by omega)
      have em : (Q.map (plI L)).map PyData.int ++ [PyData.int ((L.idxOf a : Nat) : Int)] = ((Q ++ [a]).map (plI L)).map .int := by simp [plI]
      obtain ⟨P, hP⟩ : ∃ P, P = (Q ++ [a]).map (plI L) := ⟨_, rfl⟩
      have hP0 : P ≠ [] := by rw [hP]; simp
      have hPl : P.length = Q.length + 1 := by rw [hP]; simp
      have mx := max_ints hP0
      have mn := min_ints hP0
      rw [← hP] at em
      have e2 : ok2 L Q a = decide (maxI P - minI P = (P.length : Int) - 1) := by
        unfold ok2
        rw [← hP, hPl]
        simp
      rw [e2]
      unfold b_law_falls_1
      by_cases h1 : maxI P - minI P = (P.length : Int) - 1
      · refine ⟨fun y e => ?_, fun q e => ?_⟩
        · simp [h1] at e
          subst e
          simp -implicitDefEqProofs [ix, hlt, em, -List.map_map, mx, mn, h1, -List.map_append]
          rw [hP]
        · simp [h1] at e
      · refine ⟨fun y e => ?_, fun q e => ?_⟩
        · simp [h1] at e
        · simp [h1] at e
          subst e
          simp -implicitDefEqProofs [ix, hlt, em, -List.map_map, mx, mn, h1])
  have e1 : foldS (fun (Q : List Int) a => if ok2 L Q a = true then Sum.inl (Q ++ [a]) else Sum.inr (R.val (.bool false))) [] r = if fallB L r = true then .inl r else .inr (.val (.bool false)) := by
    have h1 : ok2 L [] x = true := by
      rw [ok2_cvx hL.1 [] x (by simp) (fun y hy => by simp at hy; subst hy; exact rm y (by rw [hr]; simp))]
      exact cvx_one
    have ef := goB_foldS (ok := ok2 L) (st := fun Q => Q) (r := .val (.bool false)) (step := fun (Q : List Int) a => if ok2 L Q a = true then .inl (Q ++ [a]) else .inr (.val (.bool false))) l [x] (fun Q a _ => rfl) (by simp)
    rw [goB_fall hL.1 hp hr fun Q a h0 hn hm hc => ok2_cvx hL.1 Q a hn hm] at ef
    rw [hr]
    conv => lhs; unfold foldS
    simp only [h1, if_true, List.nil_append]
    rw [← hr]
    rw [ef, hr]
    rfl
  rw [e1] at key
  unfold F_law_falls p_law_falls
  simp only [x_runF]
  cases k : fallB L r with
  | true =>
    obtain ⟨s', e, _, v3, rfl⟩ := key.1 _ (by rw [k]; rfl)
    simp -implicitDefEqProofs [e]
  | false =>
    obtain ⟨s', e, hw⟩ := key.2 _ (by rw [k]; rfl)
    simp -implicitDefEqProofs [e, hw]

end DL

noncomputable section
namespace DL
open PySem L2
def e_grown_1 : M R := fOp (lift2 addO) (fLst (fCons (fVar 2) fNil)) (fVar 3)
abbrev l_grown_1 : M R := fLc (fLstI (fVar 1)) (bName 3) fYes (e_grown_1) [3]
def e_grown_2 : M R := fOp (lift2 addO) (fVar 3) (fLst (fCons (fVar 2) fNil))
abbrev l_grown_2 : M R := fLc (fLstI (fVar 1)) (bName 3) fYes (e_grown_2) [3]
def b_grown_3 : DSt → Flow := fSet 1 (fOp (lift2 addO) (fLc (fLstI (fVar 1)) (bName 3) fYes (e_grown_1) [3]) (fLc (fLstI (fVar 1)) (bName 3) fYes (e_grown_2) [3]))
abbrev o_grown_3 : List PyData → DSt → Flow := loopF (bName 2) b_grown_3
def p_grown : DSt → Flow := fseq (fSet 1 (fLst (fCons (fSlice (fVar 0) fNoPart (fPart (fC (.int 1)))) fNil))) (fseq (fFor (fLstI (fSlice (fVar 0) (fPart (fC (.int 1))) fNoPart)) (bName 2) b_grown_3) (fRet (fCall sortedO (pCons (fVar 1) fNil))))
def F_grown : List R → Pw → FRes := runF 4 1 p_grown
def e_is_folk_1 : M R := fUser F_is_ranking (fCons (fVar 1) fNil)
abbrev l_is_folk_1 : M R := fLc (fLstI (fVar 0)) (bName 1) fYes (e_is_folk_1) [1]
def e_is_folk_2 : M R := fOp (lift2 eqO) (fCall sortedO (pCons (fVar 1) fNil)) (fCall sortedO (pCons (fOp (lift2 ixO) (fVar 0) (fC (.int 0))) fNil))
abbrev l_is_folk_2 : M R := fLc (fLstI (fVar 0)) (bName 1) fYes (e_is_folk_2) [1]
def p_is_folk : DSt → Flow := fseq (fIfS (fOr (fNot (fB (fIsi "list" (fVar 0)))) (fOr (fB (fOp (lift2 ltO) (fCall lenO (pCons (fVar 0) fNil)) (fC (.int 1)))) (fB (fOp (lift2 gtO) (fCall lenO (pCons (fVar 0) fNil)) (fC (.int 20)))))) (fRet (fC (.bool false))) fnext) (fseq (fIfS (fNot (fB (fCall allO (pCons (fLc (fLstI (fVar 0)) (bName 1) fYes (e_is_folk_1) [1]) fNil)))) (fRet (fC (.bool false))) fnext) (fRet (fCall allO (pCons (fLc (fLstI (fVar 0)) (bName 1) fYes (e_is_folk_2) [1]) fNil))))
def F_is_folk : List R → Pw → FRes := runF 2 1 p_is_folk
def p_must_be_folk : DSt → Flow := fIfS (fNot (fB (fUser F_is_folk (fCons (fVar 0) fNil)))) (fRaise "NoFolk") fnext
def F_must_be_folk : List R → Pw → FRes := runF 1 1 p_must_be_folk
def e_lines_for_1 : M R := fUser F_does_fall (fCons (fVar 1) (fCons (fVar 2) fNil))
abbrev l_lines_for_1 : M R := fLc (fLstI (fVar 0)) (bName 2) fYes (e_lines_for_1) [2]
def t_lines_for_2 : M Bool := fB (fCall allO (pCons (fLc (fLstI (fVar 0)) (bName 2) fYes (e_lines_for_1) [2]) fNil))
def e_lines_for_3 : M R := fVar 1
abbrev l_lines_for_3 : M R := fLc (fLstI (fUser F_grown (fCons (fOp (lift2 ixO) (fVar 0) (fC (.int 0))) fNil))) (bName 1) (t_lines_for_2) (e_lines_for_3) [1]
def p_lines_for : DSt → Flow := fRet (fLc (fLstI (fUser F_grown (fCons (fOp (lift2 ixO) (fVar 0) (fC (.int 0))) fNil))) (bName 1) (t_lines_for_2) (e_lines_for_3) [1])
def F_lines_for : List R → Pw → FRes := runF 3 1 p_lines_for
def p_all_lines : DSt → Flow := fseq (fDrop (fUser F_must_be_folk (fCons (fVar 0) fNil))) (fRet (fUser F_lines_for (fCons (fVar 0) fNil)))
def F_all_lines : List R → Pw → FRes := runF 1 1 p_all_lines
/-! lines made from the best name outwards -/
def grS (F : List (List Int)) (a : Int) : List (List Int) := F.map (fun l => a :: l) ++ F.map fun l => l ++ [a]
def grL (r : List Int) : List (List Int) := (r.drop 1).foldl grS [r.take 1]
def grownL (r : List Int) : List (List Int) := sortLL (grL r)
theorem grS_len {F : List (List Int)} {a : Int} : (grS F a).length = 2 * F.length := by simp [grS]; omega
theorem gr_len : ∀ (l : List Int) (F : List (List Int)), (l.foldl grS F).length = 2 ^ l.length * F.length
  | [], F => by simp
  | a :: l, F => by
    rw [List.foldl_cons, gr_len l, grS_len, List.length_cons, Nat.pow_succ, Nat.mul_assoc]
theorem mem_gr {x : Int} : ∀ (n : Nat) (l ℓ : List Int), l.length = n → (ℓ ∈ l.foldl grS [[x]] ↔ ∃ bs : List Bool, bs.length = n ∧ ℓ.length = n + 1 ∧ pick ℓ bs = (x :: l).reverse)
  | 0, l, ℓ, h => by
    rw [List.length_eq_zero_iff.mp h]
    simp
    constructor
    · rintro rfl; exact ⟨rfl, rfl⟩
    · rintro ⟨_, h⟩; exact h
  | n + 1, l, ℓ, h => by
    obtain ⟨K, a, rfl⟩ := (snoc_of l).resolve_left (by rintro rfl; simp at h)
    have ih := fun ℓ => mem_gr (x := x) n K ℓ (by simpa using h)
    have er : (x :: (K ++ [a])).reverse = a :: (x :: K).reverse := by simp
    rw [List.foldl_append, er]
    show ℓ ∈ grS (K.foldl grS [[x]]) a ↔ _
    unfold grS
    rw [List.mem_append, List.mem_map, List.mem_map]
    constructor
    · rintro (⟨m, hm, rfl⟩ | ⟨m, hm, rfl⟩)
      · obtain ⟨bs, h1, h2, h3⟩ := (ih m).mp hm
        exact ⟨false :: bs, by simp [h1], by simp [h2], by rw [pick_false, h3]⟩
      · obtain ⟨bs, h1, h2, h3⟩ := (ih m).mp hm
        exact ⟨true :: bs, by simp [h1], by simp [h2], by rw [pick_true, h3]⟩
    · rintro ⟨bs, h1, h2, h3⟩
      match bs, h1 with
      | b :: bs, h1 =>
        cases b with
        | false =>
          match ℓ, h2 with
          | c :: m, h2 =>
            rw [pick_false] at h3
            injection h3 with e1 e2
            subst e1
            exact .inl ⟨m, (ih m).mpr ⟨bs, by simpa using h1, by simpa using h2, e2⟩, rfl⟩
        | true =>
          obtain ⟨m, c, rfl⟩ := (snoc_of ℓ).resolve_left (by rintro rfl; simp at h2)
          rw [pick_true] at h3
          injection h3 with e1 e2
          subst e1
          exact .inr ⟨m, (ih m).mpr ⟨bs, by simpa using h1, by simpa using h2, e2⟩, rfl⟩
/-- just the lines on which it falls -/
theorem mem_grown {r ℓ : List Int} (hr : r.Nodup) (h0 : r ≠ []) : ℓ ∈ grownL r ↔ r.Perm ℓ ∧ noV ℓ r := by
  unfold grownL
  rw [mem_sortLL]
  obtain ⟨x, l, rfl⟩ := List.exists_cons_of_ne_nil h0
  show ℓ ∈ l.foldl grS [[x]] ↔ _
  rw [mem_gr l.length l ℓ rfl]
  constructor
  · rintro ⟨bs, h1, h2, h3⟩
    have p : (x :: l).Perm ℓ := by
      have := pick_perm bs ℓ
      rw [h3] at this
      exact (List.reverse_perm _).symm.trans this
    have := pick_falls (p.nodup_iff.mp hr) bs
    rw [h3, List.reverse_reverse] at this
    exact ⟨p, this⟩
  · rintro ⟨p, h⟩
    have hl := p.length_eq
    obtain ⟨bs, hb, e⟩ := falls_pick (p.nodup_iff.mp hr) (by rw [← hl]; simp) p h
    refine ⟨bs, ?_, by rw [← hl]; simp, by rw [e, List.reverse_reverse]⟩
    rw [← hl] at hb
    simpa using hb
theorem grown_ok {r : List Int} {w : Pw} (h0 : r ≠ []) (hl : r.length ≤ 10) : F_grown [.val (.list ((r).map .int))] w = .ok (.new ((grownL r).map llD)) w := by
  have hr0 : 0 < r.length := List.length_pos_iff.mpr h0
  have step : ∀ (F : List (List Int)) (a : Int), F.length ≤ 600 → (∀ x ∈ F, x.length ≤ 10) → b_grown_3 ⟨[.val (.list ((r).map .int)), .own (F.map llD), .val (.int (a)), .no], w⟩ = .next ⟨[.val (.list ((r).map .int)), .own ((grS F a).map llD), .val (.int (a)), .no], w⟩ := by
    intro F a hF hx
    have e1 : l_grown_1 ⟨[.val (.list ((r).map .int)), .own (F.map llD), .val (.int (a)), .no], w⟩ = .ok (.new (F.map fun l => llD (a :: l))) ⟨[.val (.list ((r).map .int)), .val (.list (F.map llD)), .val (.int (a)), .no], w⟩ := by
      refine lc_all (fun x : List Int => ⟨[.val (.list ((r).map .int)), .val (.list (F.map llD)), .val (.int (a)), .val (llD x)], w⟩) _ (f := llD) (l := F) (by simp -implicitDefEqProofs) (by omega) rfl (fun a _ => by rfl) (fun a _ => by rfl) (fun x hm => ?_)
      have := hx x hm
      have hs : leS (1 + x.length) := size_le (by omega)
      unfold e_grown_1
      simp -implicitDefEqProofs [llD, hs]
    have e2 : l_grown_2 ⟨[.val (.list ((r).map .int)), .val (.list (F.map llD)), .val (.int (a)), .no], w⟩ = .ok (.new (F.map fun l => llD (l ++ [a]))) ⟨[.val (.list ((r).map .int)), .val (.list (F.map llD)), .val (.int (a)), .no], w⟩ := by
      refine lc_all (fun x : List Int => ⟨[.val (.list ((r).map .int)), .val (.list (F.map llD)), .val (.int (a)), .val (llD x)], w⟩) _ (f := llD) (l := F) (by simp -implicitDefEqProofs) (by omega) rfl (fun a _ => by rfl) (fun a _ => by rfl) (fun x hm => ?_)
      have := hx x hm
      have hs : leS (x.length + 1) := size_le (by omega)
      unfold e_grown_2
      simp -implicitDefEqProofs [llD, hs]
    have hs : leS (F.length + F.length) := size_le (by omega)
    have em : (F.map fun l => llD (a :: l)) ++ (F.map fun l => llD (l ++ [a])) = (grS F a).map llD := by
      unfold grS
      rw [List.map_append, List.map_map, List.map_map]
      rfl
    unfold b_grown_3
    simp -implicitDefEqProofs [e1, e2, hs, em]
  obtain ⟨s', e, v2, ⟨hx, rfl⟩⟩ := loopN (b := bName 2) (p := b_grown_3) (f := .int) (l := r.drop 1) (s := ⟨[.val (.list ((r).map .int)), .own ([r.take 1].map llD), .no, .no], w⟩)
    (fun i s => ∃ v2, (∀ x ∈ ((r.drop 1).take i).foldl grS [r.take 1], x.length ≤ i + 1) ∧ s = ⟨[.val (.list ((r).map .int)), .own ((((r.drop 1).take i).foldl grS [r.take 1]).map llD), v2, .no], w⟩) ⟨.no, by simp; omega, rfl⟩ (by
      rintro i a s hi ha ⟨v2, hx, rfl⟩
      have hi2 := (List.getElem?_eq_some_iff.mp hi).1
      simp at hi2
      rw [take_succ hi, List.foldl_append]
      obtain ⟨F, hF⟩ : ∃ F, F = ((r.drop 1).take i).foldl grS [r.take 1] := ⟨_, rfl⟩
      have lF : F.length ≤ 600 := by
        rw [hF, gr_len]
        have : 2 ^ ((r.drop 1).take i).length ≤ 2 ^ 9 := Nat.pow_le_pow_right (by decide) (by simp; omega)
        simp only [List.length_cons, List.length_nil]
        omega
      rw [← hF] at hx ⊢
      have := step F a lF fun x hm => by have := hx x hm; omega
      refine ⟨_, by unfold bod; simp -implicitDefEqProofs [this], .val (.int a), ?_, rfl⟩
      intro x hm
      show x.length ≤ i + 1 + 1
      have h2 : x ∈ F.map (fun l => a :: l) ++ F.map fun l => l ++ [a] := hm
      rw [List.mem_append, List.mem_map, List.mem_map] at h2
      rcases h2 with ⟨m, h3, rfl⟩ | ⟨m, h3, rfl⟩
      · have := hx m h3; simp; omega
      · have := hx m h3; simp; omega)
  rw [List.take_length] at e
  have ed : (r.map PyData.int).drop 1 = (r.drop 1).map .int := by simp
  have et : (r.map PyData.int).take 1 = (r.take 1).map .int := by simp
  have c1 : cutD (r.map PyData.int) none (some 1) = (r.take 1).map .int := by
    rw [cutD_map]
    congr 1
    exact cut_to (k := 1)
  have c2 : cutD (r.map PyData.int) (some 1) none = (r.drop 1).map .int := by
    rw [cutD_map]
    congr 1
    exact cut_from (k := 1)
  obtain ⟨T, hT⟩ : ∃ T, T = r.take 1 := ⟨_, rfl⟩
  obtain ⟨D, hD⟩ : ∃ D, D = r.drop 1 := ⟨_, rfl⟩
  rw [← hT] at c1 e
  rw [← hD] at c2 e
  have es : sortedO [.list ((D.foldl grS [T]).map llD)] = some (.new ((grownL r).map llD)) := by
    rw [sortedO_ll, hD, hT]
    rfl
  have eT : [T].map llD = [PyData.list (T.map .int)] := rfl
  rw [eT] at e
  unfold F_grown p_grown
  simp only [x_runF]
  simp -implicitDefEqProofs [c1, c2, e, es]
theorem grown_len {r : List Int} : (grownL r).length = 2 ^ (r.length - 1) := by
  unfold grownL
  rw [(sortLL_perm _).length_eq]
  unfold grL
  rw [gr_len]
  simp

end DL

noncomputable section
namespace DL
open PySem L2

def Folk (f : List (List Int)) : Prop := 0 < f.length ∧ f.length ≤ 20 ∧ ∀ r ∈ f, Rank r ∧ ∀ q ∈ f, q.Perm r
theorem folk_at0 {f : List (List Int)} (h : 0 < f.length) : (f.map llD)[0]? = some (llD (f.headD [])) := by
  cases f with
  | nil => simp at h
  | cons a f => rfl
theorem head_mem {f : List (List Int)} (h : 0 < f.length) : f.headD [] ∈ f := by
  cases f with
  | nil => simp at h
  | cons a f => exact List.mem_cons_self
theorem is_folk_ok {f : List (List Int)} {w : Pw} (h : Folk f) : F_is_folk [.val (.list ((f).map llD))] w = .ok (.val (.bool true)) w := by
  obtain ⟨h0, h1, h2⟩ := h
  obtain ⟨a, f', rfl⟩ := List.exists_cons_of_ne_nil (List.length_pos_iff.mp h0)
  obtain ⟨f, hf⟩ : ∃ f, f = a :: f' := ⟨_, rfl⟩
  rw [← hf] at h0 h1 h2 ⊢
  have ma : a ∈ f := by rw [hf]; exact List.mem_cons_self
  have e0 : (f.map llD)[0]? = some (llD a) := by rw [hf]; rfl
  have e0' : f[0]? = some a := by rw [hf]; rfl
  have e1 : l_is_folk_1 ⟨[.val (.list ((f).map llD)), .no], w⟩ = .ok (.new (f.map fun _ => .bool true)) ⟨[.val (.list ((f).map llD)), .no], w⟩ := by
    refine lc_all (fun x : List Int => ⟨[.val (.list ((f).map llD)), .val (llD x)], w⟩) _ (f := llD) (l := f) (by simp -implicitDefEqProofs) (by omega) rfl (fun a _ => by rfl) (fun a _ => by rfl) (fun x hx => ?_)
    unfold e_is_folk_1
    simp -implicitDefEqProofs [llD, is_ranking_ok (h2 x hx).1]
  have e2 : l_is_folk_2 ⟨[.val (.list ((f).map llD)), .no], w⟩ = .ok (.new (f.map fun _ => .bool true)) ⟨[.val (.list ((f).map llD)), .no], w⟩ := by
    refine lc_all (fun x : List Int => ⟨[.val (.list ((f).map llD)), .val (llD x)], w⟩) _ (f := llD) (l := f) (by simp -implicitDefEqProofs) (by omega) rfl (fun a _ => by rfl) (fun a _ => by rfl) (fun x hx => ?_)
    have hs := sortI_perm_eq ((h2 x hx).2 a ma)
    unfold e_is_folk_2
    simp -implicitDefEqProofs [e0', llD, hs]
  have eb : boolsD (f.map fun _ => PyData.bool true) = some (f.map fun _ => true) := boolsD_map' (f := fun _ => true)
  have ea : (f.map fun _ => true).all id = true := by simp
  have c1 : ¬ ((f.length : Nat) : Int) < 1 := by omega
  have c2 : ¬ (20 : Int) < (f.length : Nat) := by omega
  have c3 : f ≠ [] := by rw [hf]; simp
  unfold F_is_folk p_is_folk
  simp only [x_runF]
  simp -implicitDefEqProofs [e1, e2, eb, ea, c1, c2, c3]
theorem must_folk_ok {f : List (List Int)} {w : Pw} (h : Folk f) : F_must_be_folk [.val (.list ((f).map llD))] w = .ok (.val .none) w := by
  unfold F_must_be_folk p_must_be_folk
  simp only [x_runF]
  simp -implicitDefEqProofs [is_folk_ok h]
def linesF (f : List (List Int)) : List (List Int) := (grownL (f.headD [])).filter fun ℓ => f.all fun r => fallB ℓ r
theorem mem_linesF {f : List (List Int)} (h : Folk f) {ℓ : List Int} : ℓ ∈ linesF f ↔ ∀ r ∈ f, r.Perm ℓ ∧ noV ℓ r := by
  obtain ⟨h0, h1, h2⟩ := h
  have hm := head_mem h0
  obtain ⟨rk, hp⟩ := h2 _ hm
  unfold linesF
  rw [List.mem_filter, mem_grown rk.1 (List.length_pos_iff.mp rk.2.2.1), List.all_eq_true]
  constructor
  · rintro ⟨⟨p, _⟩, h⟩ r hr
    exact ⟨(hp r hr).trans p, fallB_iff.mp (h r hr)⟩
  · intro h
    exact ⟨h _ hm, fun r hr => fallB_iff.mpr (h r hr).2⟩
theorem lines_for_ok {f : List (List Int)} {w : Pw} (h : Folk f) : F_lines_for [.val (.list ((f).map llD))] w = .ok (.new ((linesF f).map llD)) w := by
  obtain ⟨h0, h1, h2⟩ := h
  have hm := head_mem h0
  obtain ⟨rk, hp⟩ := h2 _ hm
  obtain ⟨a, ea⟩ : ∃ a, a = f.headD [] := ⟨_, rfl⟩
  rw [← ea] at hm rk hp
  have e0' : f[0]? = some a := by
    cases f with
    | nil => simp at h0
    | cons b f => rw [ea]; rfl
  have a0 : a ≠ [] := List.length_pos_iff.mp rk.2.2.1
  have inner : ∀ ℓ ∈ grownL a, l_lines_for_1 ⟨[.val (.list ((f).map llD)), .val (llD ℓ), .no], w⟩ = .ok (.new (f.map fun r => .bool (fallB ℓ r))) ⟨[.val (.list ((f).map llD)), .val (llD ℓ), .no], w⟩ := by
    intro ℓ hℓ
    have pℓ := ((mem_grown rk.1 a0).mp hℓ).1
    refine lc_all (fun x : List Int => ⟨[.val (.list ((f).map llD)), .val (llD ℓ), .val (llD x)], w⟩) _ (f := llD) (l := f) (by simp -implicitDefEqProofs) (by omega) rfl (fun a _ => by rfl) (fun a _ => by rfl) (fun x hx => ?_)
    unfold e_lines_for_1
    simp -implicitDefEqProofs [llD, does_fall_ok (rk.perm pℓ.symm) ((hp x hx).trans pℓ)]
  have e1 : l_lines_for_3 ⟨[.val (.list ((f).map llD)), .no, .no], w⟩ = .ok (.new ((linesF f).map llD)) ⟨[.val (.list ((f).map llD)), .no, .no], w⟩ := by
    unfold linesF
    rw [← ea]
    refine lc_gen (fun x : List Int => ⟨[.val (.list ((f).map llD)), .val (llD x), .no], w⟩) _ llD (f := llD) (l := grownL a) ?_ ?_ rfl (fun a _ => by rfl) (fun a _ => by rfl) (fun x hx => ?_) (fun x hx _ => ?_)
    · simp -implicitDefEqProofs [e0', llD, grown_ok a0 rk.2.2.2]
    · rw [grown_len]
      have : 2 ^ (a.length - 1) ≤ 2 ^ 9 := Nat.pow_le_pow_right (by decide) (by have := rk.2.2.2; omega)
      omega
    · have eb : boolsD (f.map fun r => PyData.bool (fallB x r)) = some (f.map fun r => fallB x r) := boolsD_map'
      unfold t_lines_for_2
      simp -implicitDefEqProofs [inner x hx, eb, List.all_map]
    · unfold e_lines_for_3
      simp -implicitDefEqProofs [llD]
  unfold F_lines_for p_lines_for
  simp only [x_runF]
  simp -implicitDefEqProofs [e1]
theorem all_lines_ok {f : List (List Int)} {w : Pw} (h : Folk f) : F_all_lines [.val (.list ((f).map llD))] w = .ok (.new ((linesF f).map llD)) w := by
  unfold F_all_lines p_all_lines
  simp only [x_runF]
  simp -implicitDefEqProofs [must_folk_ok h, lines_for_ok h]

end DL

noncomputable section
namespace DL
open PySem L2

/-- data of bounded depth and size, without dicts -/
def bdd : Nat → PyData → Prop
  | _, .none | _, .bool _ | _, .int _ | _, .str _ => True
  | n + 1, .list ds => ds.length ≤ 1000 ∧ ∀ d ∈ ds, bdd n d
  | n + 1, .tuple ds => ds.length ≤ 1000 ∧ ∀ d ∈ ds, bdd n d
  | _, _ => False
@[simp] theorem bdd_none {n : Nat} : bdd n .none := by cases n <;> simp [bdd]
@[simp] theorem bdd_bool {n : Nat} {b : Bool} : bdd n (.bool b) := by cases n <;> simp [bdd]
@[simp] theorem bdd_int {n : Nat} {b : Int} : bdd n (.int b) := by cases n <;> simp [bdd]
@[simp] theorem bdd_str {n : Nat} {b : Str} : bdd n (.str b) := by cases n <;> simp [bdd]
@[simp] theorem bdd_list {n : Nat} {ds : List PyData} : bdd (n + 1) (.list ds) ↔ ds.length ≤ 1000 ∧ ∀ d ∈ ds, bdd n d := by simp [bdd]
@[simp] theorem bdd_tuple {n : Nat} {ds : List PyData} : bdd (n + 1) (.tuple ds) ↔ ds.length ≤ 1000 ∧ ∀ d ∈ ds, bdd n d := by simp [bdd]
theorem bdd_up : ∀ {n m : Nat} {d : PyData}, n ≤ m → bdd n d → bdd m d
  | n, m, .none, _, _ => by simp
  | n, m, .bool _, _, _ => by simp
  | n, m, .int _, _, _ => by simp
  | n, m, .str _, _, _ => by simp
  | n + 1, m + 1, .list ds, h, b => by
    rw [bdd_list] at b ⊢
    exact ⟨b.1, fun d hd => bdd_up (by omega) (b.2 d hd)⟩
  | n + 1, m + 1, .tuple ds, h, b => by
    rw [bdd_tuple] at b ⊢
    exact ⟨b.1, fun d hd => bdd_up (by omega) (b.2 d hd)⟩
  | 0, _, .list ds, _, b => by unfold bdd at b; exact b.elim
  | 0, _, .tuple ds, _, b => by unfold bdd at b; exact b.elim
  | 0, _, .dict _, _, b => by unfold bdd at b; exact b.elim
  | _ + 1, _, .dict _, _, b => by unfold bdd at b; exact b.elim
  | _ + 1, 0, .list _, h, _ => by omega
  | _ + 1, 0, .tuple _, h, _ => by omega
theorem plainAll_of {ds : List PyData} (h : ∀ d ∈ ds, d.plain = true) : PyData.plainAll ds = true := by
  induction ds with
  | nil => rfl
  | cons d ds ih => simp [PyData.plainAll, h d List.mem_cons_self, ih fun d hd => h d (List.mem_cons_of_mem _ hd)]
theorem bdd_plain : ∀ {n : Nat} {d : PyData}, bdd n d → d.plain = true
  | _, .none, _ | _, .bool _, _ | _, .int _, _ | _, .str _, _ => rfl
  | n + 1, .list ds, b => by
    rw [bdd_list] at b
    simp only [PyData.plain]
    exact plainAll_of fun d hd => bdd_plain (b.2 d hd)
  | n + 1, .tuple ds, b => by
    rw [bdd_tuple] at b
    simp only [PyData.plain]
    exact plainAll_of fun d hd => bdd_plain (b.2 d hd)
  | 0, .list ds, b => by unfold bdd at b; exact b.elim
  | 0, .tuple ds, b => by unfold bdd at b; exact b.elim
  | 0, .dict _, b => by unfold bdd at b; exact b.elim
  | _ + 1, .dict _, b => by unfold bdd at b; exact b.elim
theorem bdd_dep : ∀ {n : Nat} {d : PyData}, bdd n d → d.depth ≤ n
  | _, .none, _ | _, .bool _, _ | _, .int _, _ | _, .str _, _ => by simp [PyData.depth]
  | n + 1, .list ds, b => by
    rw [bdd_list] at b
    have : PyData.depthAll ds ≤ n := depthAll_le.mpr fun d hd => bdd_dep (b.2 d hd)
    simp [PyData.depth]
    omega
  | n + 1, .tuple ds, b => by
    rw [bdd_tuple] at b
    have : PyData.depthAll ds ≤ n := depthAll_le.mpr fun d hd => bdd_dep (b.2 d hd)
    simp [PyData.depth]
    omega
  | 0, .list ds, b => by unfold bdd at b; exact b.elim
  | 0, .tuple ds, b => by unfold bdd at b; exact b.elim
  | 0, .dict _, b => by unfold bdd at b; exact b.elim
  | _ + 1, .dict _, b => by unfold bdd at b; exact b.elim
theorem bdd_len {n : Nat} {d : PyData} (b : bdd n d) : lenOk d := by
  cases d with
  | list ds =>
    cases n with
    | zero => unfold bdd at b; exact b.elim
    | succ n => rw [bdd_list] at b; exact Nat.le_trans b.1 (by omega)
  | _ => trivial
theorem bdd_items {n : Nat} {ds : List PyData} (b : bdd n (.list ds)) : ∀ d ∈ ds, bdd n d := by
  cases n with
  | zero => unfold bdd at b; exact b.elim
  | succ n => rw [bdd_list] at b; exact fun d hd => bdd_up (Nat.le_succ n) (b.2 d hd)
theorem bdd_litems {n : Nat} {ds : List PyData} (b : bdd n (.list ds)) : ds.length ≤ 1000 := by
  cases n with
  | zero => unfold bdd at b; exact b.elim
  | succ n => rw [bdd_list] at b; exact b.1
theorem neO_self {n : Nat} {d : PyData} (b : bdd n d) (hn : n ≤ 60) : neO d d = some (.val (.bool false)) := by
  unfold neO
  have := bdd_dep b
  rw [if_pos (by rw [Nat.min_self]; omega), PySem.SeqAt.eqv_refl_plain d (bdd_plain b)]
  rfl
/-! ### a folk -/
def folkB (d : PyData) : Bool := @decide (∃ f : List (List Int), d = .list (f.map llD) ∧ Folk f) (Classical.propDecidable _)
theorem folkB_iff {d : PyData} : folkB d = true ↔ ∃ f : List (List Int), d = .list (f.map llD) ∧ Folk f := by simp [folkB]
theorem rank_all : ∀ {ds : List PyData}, ds.all rankB = true → ∃ f : List (List Int), ds = f.map llD ∧ ∀ r ∈ f, Rank r
  | [], _ => ⟨[], rfl, by simp⟩
  | d :: ds, h => by
    simp only [List.all_cons, Bool.and_eq_true] at h
    obtain ⟨ns, rfl, hr⟩ := rankB_some h.1
    obtain ⟨f, rfl, hf⟩ := rank_all h.2
    exact ⟨ns :: f, rfl, fun r hm => by
      rcases List.mem_cons.mp hm with rfl | hm
      · exact hr
      · exact hf r hm⟩
theorem sortI_inj {a b : List Int} (h : sortI a = sortI b) : a.Perm b := (sortI_perm a).symm.trans (h ▸ sortI_perm b)
theorem is_folk_any {n : Nat} {d : PyData} {w : Pw} (b : bdd n d) : F_is_folk [.val d] w = .ok (.val (.bool (folkB d))) w := by
  by_cases hF : ∃ f : List (List Int), d = .list (f.map llD) ∧ Folk f
  · obtain ⟨f, rfl, hf⟩ := hF
    rw [folkB_iff.mpr ⟨f, rfl, hf⟩]
    exact is_folk_ok hf
  have hB : folkB d = false := by
    rw [Bool.eq_false_iff]
    exact fun z => hF (folkB_iff.mp z)
  rw [hB]
  cases d with
  | list ds =>
    have hl := bdd_litems b
    by_cases c1 : ((ds.length : Nat) : Int) < 1
    · unfold F_is_folk p_is_folk
      simp only [x_runF]
      simp -implicitDefEqProofs [c1]
    by_cases c2 : (20 : Int) < (ds.length : Nat)
    · unfold F_is_folk p_is_folk
      simp only [x_runF]
      simp -implicitDefEqProofs [c1, c2]
    have e1 : l_is_folk_1 ⟨[.val (.list ds), .no], w⟩ = .ok (.new (ds.map fun x => .bool (rankB x))) ⟨[.val (.list ds), .no], w⟩ := by
      refine lc_all (fun x : PyData => ⟨[.val (.list ds), .val x], w⟩) _ (f := id) (l := ds) (by simp -implicitDefEqProofs) (by omega) rfl (fun a _ => by rfl) (fun a _ => by rfl) (fun x hx => ?_)
      unfold e_is_folk_1
      simp -implicitDefEqProofs [is_ranking_any (bdd_len (bdd_items b x hx))]
    by_cases ha : ds.all rankB = true
    · have ha' : (ds.map rankB).all id = true := by simpa using ha
      obtain ⟨f, rfl, hf⟩ := rank_all ha
      have hl2 : f.length = (f.map llD).length := by simp
      have h0 : 0 < f.length := by omega
      obtain ⟨a, ea⟩ : ∃ a, f[0]? = some a := ⟨f[0], List.getElem?_eq_getElem h0⟩
      have e2 : l_is_folk_2 ⟨[.val (.list ((f).map llD)), .no], w⟩ = .ok (.new (f.map fun x => .bool (decide (sortI x = sortI a)))) ⟨[.val (.list ((f).map llD)), .no], w⟩ := by
        refine lc_all (fun x : List Int => ⟨[.val (.list ((f).map llD)), .val (llD x)], w⟩) _ (f := llD) (l := f) (by simp -implicitDefEqProofs) (by omega) rfl (fun a _ => by rfl) (fun a _ => by rfl) (fun x hx => ?_)
        unfold e_is_folk_2
        simp -implicitDefEqProofs [ea, llD]
      have hn : (f.map fun x => decide (sortI x = sortI a)).all id = false := by
        rw [Bool.eq_false_iff]
        intro z
        simp at z
        refine hF ⟨f, rfl, h0, by omega, fun r hr => ⟨hf r hr, fun q hq => ?_⟩⟩
        exact sortI_inj ((z q hq).trans (z r hr).symm)
      have e1' : l_is_folk_1 ⟨[.val (.list ((f).map llD)), .no], w⟩ = .ok (.new (f.map fun _ => .bool true)) ⟨[.val (.list ((f).map llD)), .no], w⟩ := by
        rw [e1, List.map_map]
        congr 2
        refine List.map_congr_left fun r hr => ?_
        show PyData.bool (rankB (.list (r.map .int))) = _
        rw [rankB_ints, decide_eq_true (hf r hr)]
      have eb : boolsD (f.map fun _ => PyData.bool true) = some (f.map fun _ => true) := boolsD_map' (f := fun _ => true)
      have et : (f.map fun _ => true).all id = true := by simp
      rw [← hl2] at c1 c2
      unfold F_is_folk p_is_folk
      simp only [x_runF]
      simp -implicitDefEqProofs [c1, c2, e1', eb, et, boolsD_map', e2, hn]
    · have ha' : (ds.map rankB).all id = false := by simpa using ha
      unfold F_is_folk p_is_folk
      simp only [x_runF]
      simp -implicitDefEqProofs [c1, c2, e1, boolsD_map', ha']
  | _ =>
    unfold F_is_folk p_is_folk
    simp only [x_runF]
    simp -implicitDefEqProofs

end DL

noncomputable section
namespace DL
open PySem L2
def p_is_tie : DSt → Flow := fseq (fIfS (fOr (fNot (fB (fIsi "tuple" (fVar 1)))) (fOr (fB (fOp (lift2 neO) (fCall lenO (pCons (fVar 1) fNil)) (fC (.int 2)))) (fOr (fNot (fB (fUser F_is_number (fCons (fOp (lift2 ixO) (fVar 1) (fC (.int 0))) fNil)))) (fNot (fB (fUser F_is_number (fCons (fOp (lift2 ixO) (fVar 1) (fC (.int 1))) fNil))))))) (fRet (fC (.bool false))) fnext) (fRet (fAndV (fOp (lift2 ltO) (fOp (lift2 ixO) (fVar 1) (fC (.int 0))) (fOp (lift2 ixO) (fVar 1) (fC (.int 1)))) (fAndV (fOp (lift2 inO) (fOp (lift2 ixO) (fVar 1) (fC (.int 0))) (fVar 0)) (fOp (lift2 inO) (fOp (lift2 ixO) (fVar 1) (fC (.int 1))) (fVar 0)))))
def F_is_tie : List R → Pw → FRes := runF 2 2 p_is_tie
def e_is_right_tree_v2_1 : M R := fUser F_is_tie (fCons (fVar 0) (fCons (fVar 2) fNil))
abbrev l_is_right_tree_v2_1 : M R := fLc (fLstI (fVar 1)) (bName 2) fYes (e_is_right_tree_v2_1) [2]
def p_is_right_tree_v2 : DSt → Flow := fseq (fIfS (fOr (fNot (fB (fIsi "list" (fVar 1)))) (fOr (fB (fOp (lift2 neO) (fCall lenO (pCons (fVar 1) fNil)) (fOp (lift2 subO) (fCall lenO (pCons (fVar 0) fNil)) (fC (.int 1))))) (fNot (fB (fCall allO (pCons (fLc (fLstI (fVar 1)) (bName 2) fYes (e_is_right_tree_v2_1) [2]) fNil)))))) (fRet (fC (.bool false))) fnext) (fRet (fAndV (fOp (lift2 eqO) (fVar 1) (fSortSetP (fVar 1))) (fUser F_hang_together (fCons (fVar 1) (fCons (fVar 0) fNil)))))
def F_is_right_tree_v2 : List R → Pw → FRes := runF 3 2 p_is_right_tree_v2
def p_law_whole : DSt → Flow := fRet (fAndV (fIsi "int" (fVar 0)) (fV (fNot (fB (fIsi "bool" (fVar 0))))))
def F_law_whole : List R → Pw → FRes := runF 1 1 p_law_whole
def b_law_is_tree_v2_1 : DSt → Flow := fseq (fIfS (fOr (fNot (fB (fIsi "tuple" (fVar 2)))) (fOr (fB (fOp (lift2 neO) (fCall lenO (pCons (fVar 2) fNil)) (fC (.int 2)))) (fOr (fNot (fB (fUser F_law_whole (fCons (fOp (lift2 ixO) (fVar 2) (fC (.int 0))) fNil)))) (fNot (fB (fUser F_law_whole (fCons (fOp (lift2 ixO) (fVar 2) (fC (.int 1))) fNil))))))) (fRet (fC (.bool false))) fnext) (fIfS (fOr (fB (fOp (lift2 geO) (fOp (lift2 ixO) (fVar 2) (fC (.int 0))) (fOp (lift2 ixO) (fVar 2) (fC (.int 1))))) (fOr (fB (fOp (lift2 notInO) (fOp (lift2 ixO) (fVar 2) (fC (.int 0))) (fVar 0))) (fB (fOp (lift2 notInO) (fOp (lift2 ixO) (fVar 2) (fC (.int 1))) (fVar 0))))) (fRet (fC (.bool false))) fnext)
abbrev o_law_is_tree_v2_1 : List PyData → DSt → Flow := loopF (bName 2) b_law_is_tree_v2_1
def p_law_is_tree_v2 : DSt → Flow := fseq (fIfS (fOr (fNot (fB (fIsi "list" (fVar 1)))) (fB (fOp (lift2 neO) (fCall lenO (pCons (fVar 1) fNil)) (fOp (lift2 subO) (fCall lenO (pCons (fVar 0) fNil)) (fC (.int 1)))))) (fRet (fC (.bool false))) fnext) (fseq (fFor (fLstI (fVar 1)) (bName 2) b_law_is_tree_v2_1) (fRet (fAndV (fOp (lift2 eqO) (fVar 1) (fSortSetP (fVar 1))) (fUser F_law_together (fCons (fVar 1) (fCons (fVar 0) fNil))))))
def F_law_is_tree_v2 : List R → Pw → FRes := runF 3 2 p_law_is_tree_v2
/-! trees looked at, whatever they are -/
def tieB (N : List Int) : PyData → Bool
  | .tuple [.int a, .int b] => decide (a < b ∧ a ∈ N ∧ b ∈ N)
  | _ => false
theorem law_whole_any {d : PyData} {w : Pw} : F_law_whole [.val d] w = .ok (.val (.bool (isI d))) w := by
  unfold F_law_whole p_law_whole
  simp only [x_runF]
  cases d <;> simp -implicitDefEqProofs [isI]
theorem is_tie_any {N : List Int} {d : PyData} {w : Pw} : F_is_tie [.val (.list ((N).map .int)), .val d] w = .ok (.val (.bool (tieB N d))) w := by
  unfold F_is_tie p_is_tie
  simp only [x_runF]
  match d with
  | .tuple [x, y] =>
    cases x <;> cases y <;> simp -implicitDefEqProofs [is_number_any, isI, tieB]
    rename_i a b
    by_cases h1 : a < b <;> by_cases h2 : a ∈ N <;> simp -implicitDefEqProofs [h1, h2]
  | .tuple [] => simp -implicitDefEqProofs [tieB]
  | .tuple [_] => simp -implicitDefEqProofs [tieB]
  | .tuple (_ :: _ :: _ :: r) =>
    have q : ¬ ((r.length : Int) + 1 + 1 + 1 = 2) := by omega
    simp -implicitDefEqProofs [tieB, q]
  | .none => simp -implicitDefEqProofs [tieB]
  | .bool _ => simp -implicitDefEqProofs [tieB]
  | .int _ => simp -implicitDefEqProofs [tieB]
  | .str _ => simp -implicitDefEqProofs [tieB]
  | .list _ => simp -implicitDefEqProofs [tieB]
  | .dict _ => simp -implicitDefEqProofs [tieB]
theorem tie_some {N : List Int} {d : PyData} (h : tieB N d = true) : ∃ p : Int × Int, d = prT p ∧ p.1 < p.2 ∧ p.1 ∈ N ∧ p.2 ∈ N := by
  match d, h with
  | .tuple [.int a, .int b], h => exact ⟨(a, b), rfl, of_decide_eq_true h⟩
theorem tieB_prT {N : List Int} {p : Int × Int} : tieB N (prT p) = decide (p.1 < p.2 ∧ p.1 ∈ N ∧ p.2 ∈ N) := rfl
theorem ties_some {N : List Int} : ∀ {ds : List PyData}, ds.all (tieB N) = true → ∃ ps : List (Int × Int), ds = ps.map prT ∧ ∀ p ∈ ps, p.1 < p.2 ∧ p.1 ∈ N ∧ p.2 ∈ N
  | [], _ => ⟨[], rfl, by simp⟩
  | d :: ds, h => by
    rw [List.all_cons, Bool.and_eq_true] at h
    obtain ⟨p, rfl, hp⟩ := tie_some h.1
    obtain ⟨ps, rfl, hps⟩ := ties_some (ds := ds) h.2
    exact ⟨p :: ps, rfl, fun q hq => by
      rcases List.mem_cons.mp hq with rfl | hq
      · exact hp
      · exact hps q hq⟩
/-- a tree of the names -/
def TreeP (N : List Int) (ps : List (Int × Int)) : Prop := ps.length + 1 = N.length ∧ (∀ p ∈ ps, p.1 < p.2 ∧ p.1 ∈ N ∧ p.2 ∈ N) ∧ ps.Pairwise ltP ∧ (clT ps N (N.headD 0)).length = N.length
instance (N : List Int) (ps : List (Int × Int)) : Decidable (TreeP N ps) := Classical.propDecidable _
def treeB (N : List Int) : PyData → Bool
  | .list ds => match pairsD ds with
    | some ps => decide (TreeP N ps)
    | none => false
  | _ => false
theorem treeB_map {N : List Int} {ps : List (Int × Int)} : treeB N (.list (ps.map prT)) = decide (TreeP N ps) := by
  show (match pairsD (ps.map prT) with | some ps => decide (TreeP N ps) | none => false) = _
  rw [pairsD_map]
theorem treeB_no {N : List Int} {ds : List PyData} (h : ¬ (ds.length + 1 = N.length) ∨ ds.all (tieB N) = false) : treeB N (.list ds) = false := by
  show (match pairsD ds with | some ps => decide (TreeP N ps) | none => false) = _
  cases e : pairsD ds with
  | none => rfl
  | some ps =>
    obtain rfl := pairsD_inv e
    refine decide_eq_false fun z => ?_
    rcases h with h | h
    · exact h (by rw [List.length_map]; exact z.1)
    · have : (ps.map prT).all (tieB N) = true := by
        rw [List.all_eq_true]
        intro d hd
        obtain ⟨p, hp, rfl⟩ := List.mem_map.mp hd
        rw [tieB_prT]
        exact decide_eq_true (z.2.1 p hp)
      rw [this] at h
      cases h
theorem prT_inj {p q : Int × Int} : prT p = prT q ↔ p = q := by
  obtain ⟨a, b⟩ := p
  obtain ⟨c, d⟩ := q
  simp [prT]
theorem map_prT_inj {ps qs : List (Int × Int)} : ps.map prT = qs.map prT ↔ ps = qs := by
  refine ⟨fun h => ?_, fun h => by rw [h]⟩
  have := congrArg pairsD h
  rw [pairsD_map, pairsD_map] at this
  exact Option.some.inj this
theorem calm_pr {ps : List (Int × Int)} : calmD (.list (ps.map prT)) = true := by
  rw [calm_list, calmA_iff]
  intro d hd
  obtain ⟨p, _, rfl⟩ := List.mem_map.mp hd
  rfl
theorem dep_pr {ps : List (Int × Int)} : (PyData.list (ps.map prT)).depth ≤ 2 := by
  rw [dep_list]
  have : PyData.depthAll (ps.map prT) ≤ 1 := depthAll_le.mpr fun d hd => by
    obtain ⟨p, _, rfl⟩ := List.mem_map.mp hd
    simp [prT]
  omega
theorem eqO_pr {ps qs : List (Int × Int)} : eqO (.list (ps.map prT)) (.list (qs.map prT)) = some (.val (.bool (decide (ps = qs)))) := by
  refine eqO_calm calm_pr calm_pr ?_ (by have := dep_pr (ps := ps); omega)
  rw [PyData.list.injEq]
  exact map_prT_inj
theorem right_any {N : List Int} {d : PyData} {w : Pw} (h0 : 0 < N.length) (hs : N.length ≤ 60) (hn : ∀ x ∈ N, 0 ≤ x) (hl : lenOk d) : F_is_right_tree_v2 [.val (.list ((N).map .int)), .val d] w = .ok (.val (.bool (treeB N d))) w := by
  cases d with
  | list ds =>
    have hl : ds.length ≤ 4000 := hl
    have e : fLc (fLstI (fVar 1)) (bName 2) fYes e_is_right_tree_v2_1 [2] ⟨[.val (.list ((N).map .int)), .val (.list ds), .no], w⟩ = .ok (.new (ds.map fun x => .bool (tieB N x))) ⟨[.val (.list ((N).map .int)), .val (.list ds), .no], w⟩ := by
      refine lc_all (fun a : PyData => ⟨[.val (.list ((N).map .int)), .val (.list ds), .val a], w⟩) _ (f := id) (l := ds) (by simp -implicitDefEqProofs) (by omega) rfl (fun a _ => by rfl) (fun a _ => by rfl) (fun a _ => ?_)
      unfold e_is_right_tree_v2_1
      simp -implicitDefEqProofs [is_tie_any]
    by_cases q1 : ds.length + 1 = N.length
    · have q1' : (ds.length : Int) = (N.length : Int) - 1 := by omega
      by_cases q2 : ds.all (tieB N) = true
      · obtain ⟨ps, rfl, hp⟩ := ties_some q2
        have q2' : ((ps.map prT).map (tieB N)).all id = true := by rw [List.all_map]; exact q2
        rw [List.length_map] at q1 q1'
        have nn : ps.length < 64 ∧ nnP ps := ⟨by omega, fun p h => ⟨hn _ (hp p h).2.1, hn _ (hp p h).2.2⟩⟩
        rw [treeB_map]
        have eh := hang_ok (ties := ps) (some := N) (w := w) h0 (by omega)
        obtain ⟨S, hS⟩ : ∃ S, S = setP ps := ⟨_, rfl⟩
        have eS : ps = S ↔ ps.Pairwise ltP := by rw [hS]; exact eq_comm.trans setP_self
        obtain ⟨D, hD⟩ : ∃ D, D = ps.map prT := ⟨_, rfl⟩
        have pD := pairsD_map ps
        have lD : D.length = ps.length := by rw [hD, List.length_map]
        have eq := eqO_pr (ps := ps) (qs := S)
        rw [← hD] at e eh pD eq q2' ⊢
        have q3 : ((D.length : Nat) : Int) = (N.length : Int) - 1 := by omega
        unfold F_is_right_tree_v2 p_is_right_tree_v2
        simp only [x_runF]
        by_cases q4 : ps.Pairwise ltP
        · have q5 : (ps = S) = True := eq_true (eS.mpr q4)
          by_cases q6 : (clT ps N (N.headD 0)).length = N.length
          · have : decide (TreeP N ps) = true := decide_eq_true ⟨q1, hp, q4, q6⟩
            simp -implicitDefEqProofs [e, boolsD_map', q2', q3, pD, nn, ← hS, eq, q5, eh, q6, this, -List.headD_eq_head?_getD]
          · have : decide (TreeP N ps) = false := decide_eq_false fun z => q6 z.2.2.2
            simp -implicitDefEqProofs [e, boolsD_map', q2', q3, pD, nn, ← hS, eq, q5, eh, q6, this, -List.headD_eq_head?_getD]
        · have q5 : ¬ ps = S := fun z => q4 (eS.mp z)
          have : decide (TreeP N ps) = false := decide_eq_false fun z => q4 z.2.2.1
          simp -implicitDefEqProofs [e, boolsD_map', q2', q3, pD, nn, ← hS, eq, q5, this]
      · have q2 : ds.all (tieB N) = false := by simpa using q2
        have q2' : (ds.map (tieB N)).all id = false := by rw [List.all_map]; exact q2
        rw [treeB_no (.inr q2)]
        unfold F_is_right_tree_v2 p_is_right_tree_v2
        simp only [x_runF]
        simp -implicitDefEqProofs [e, boolsD_map', q2', q1']
    · have q1' : ¬ ((ds.length : Int) = (N.length : Int) - 1) := by omega
      rw [treeB_no (.inl q1)]
      unfold F_is_right_tree_v2 p_is_right_tree_v2
      simp only [x_runF]
      simp -implicitDefEqProofs [q1']
  | _ =>
    unfold F_is_right_tree_v2 p_is_right_tree_v2
    simp only [x_runF]
    simp -implicitDefEqProofs [treeB]
theorem ltree_step {N : List Int} {d : PyData} {x : PyData} {w : Pw} {s2 : Sl} : bod (bName 2) b_law_is_tree_v2_1 x ⟨[.val (.list ((N).map .int)), .val d, s2], w⟩ = if tieB N x = true then .next ⟨[.val (.list ((N).map .int)), .val d, .val x], w⟩ else .ret (.val (.bool false)) ⟨[.val (.list ((N).map .int)), .val d, .val x], w⟩ := by
  unfold b_law_is_tree_v2_1
  match x with
  | .tuple [x, y] =>
    cases x <;> cases y <;> simp -implicitDefEqProofs [law_whole_any, isI, tieB]
    rename_i a b
    by_cases h1 : a < b
    · have h1' : ¬ b ≤ a := by omega
      by_cases h2 : a ∈ N <;> by_cases h3 : b ∈ N <;> simp -implicitDefEqProofs [h1, h1', h2, h3]
    · have h1' : b ≤ a := by omega
      simp -implicitDefEqProofs [h1, h1']
  | .tuple [] => simp -implicitDefEqProofs [tieB]
  | .tuple [_] => simp -implicitDefEqProofs [tieB]
  | .tuple (_ :: _ :: _ :: r) =>
    have q : ¬ ((r.length : Int) + 1 + 1 + 1 = 2) := by omega
    simp -implicitDefEqProofs [tieB, q]
  | .none => simp -implicitDefEqProofs [tieB]
  | .bool _ => simp -implicitDefEqProofs [tieB]
  | .int _ => simp -implicitDefEqProofs [tieB]
  | .str _ => simp -implicitDefEqProofs [tieB]
  | .list _ => simp -implicitDefEqProofs [tieB]
  | .dict _ => simp -implicitDefEqProofs [tieB]
theorem law_tree_any {N : List Int} {d : PyData} {w : Pw} (h0 : 0 < N.length) (hs : N.length ≤ 60) (hn : ∀ x ∈ N, 0 ≤ x) (hl : lenOk d) : F_law_is_tree_v2 [.val (.list ((N).map .int)), .val d] w = .ok (.val (.bool (treeB N d))) w := by
  cases d with
  | list ds =>
    have hl : ds.length ≤ 4000 := hl
    by_cases q1 : ds.length + 1 = N.length
    · have q1' : (ds.length : Int) = (N.length : Int) - 1 := by omega
      have lp := loopAll (b := bName 2) (p := b_law_is_tree_v2_1) (f := id) (l := ds) (s := ⟨[.val (.list ((N).map .int)), .val (.list ds), .no], w⟩) (tieB N) (.val (.bool false))
        (fun s => ∃ v2, s = ⟨[.val (.list ((N).map .int)), .val (.list ds), v2], w⟩) (fun s => s.w = w) ⟨_, rfl⟩ (by
          rintro x hx s ⟨v2, rfl⟩
          rw [ltree_step]
          refine ⟨fun h => ?_, fun h => ?_⟩
          · rw [id_eq, if_pos h]
            exact ⟨_, rfl, _, rfl⟩
          · rw [id_eq, h]
            exact ⟨_, rfl, rfl⟩)
      rw [List.map_id] at lp
      by_cases q2 : ds.all (tieB N) = true
      · obtain ⟨s', e, v2, rfl⟩ := lp.1 q2
        obtain ⟨ps, rfl, hp⟩ := ties_some q2
        rw [List.length_map] at q1 q1'
        have nn : ps.length < 64 ∧ nnP ps := ⟨by omega, fun p h => ⟨hn _ (hp p h).2.1, hn _ (hp p h).2.2⟩⟩
        rw [treeB_map]
        have eh := together_ok (ties := ps) (some := N) (w := w) h0 (by omega)
        obtain ⟨S, hS⟩ : ∃ S, S = setP ps := ⟨_, rfl⟩
        have eS : ps = S ↔ ps.Pairwise ltP := by rw [hS]; exact eq_comm.trans setP_self
        obtain ⟨D, hD⟩ : ∃ D, D = ps.map prT := ⟨_, rfl⟩
        have pD := pairsD_map ps
        have lD : D.length = ps.length := by rw [hD, List.length_map]
        have eq := eqO_pr (ps := ps) (qs := S)
        rw [← hD] at e eh pD eq ⊢
        have q3 : ((D.length : Nat) : Int) = (N.length : Int) - 1 := by omega
        unfold F_law_is_tree_v2 p_law_is_tree_v2
        simp only [x_runF]
        by_cases q4 : ps.Pairwise ltP
        · have q5 : (ps = S) = True := eq_true (eS.mpr q4)
          by_cases q6 : (clT ps N (N.headD 0)).length = N.length
          · have : decide (TreeP N ps) = true := decide_eq_true ⟨q1, hp, q4, q6⟩
            simp -implicitDefEqProofs [e, q3, pD, nn, ← hS, eq, q5, eh, q6, this, -List.headD_eq_head?_getD]
          · have : decide (TreeP N ps) = false := decide_eq_false fun z => q6 z.2.2.2
            simp -implicitDefEqProofs [e, q3, pD, nn, ← hS, eq, q5, eh, q6, this, -List.headD_eq_head?_getD]
        · have q5 : ¬ ps = S := fun z => q4 (eS.mp z)
          have : decide (TreeP N ps) = false := decide_eq_false fun z => q4 z.2.2.1
          simp -implicitDefEqProofs [e, q3, pD, nn, ← hS, eq, q5, this]
      · have q2 : ds.all (tieB N) = false := by simpa using q2
        obtain ⟨s', e, hw⟩ := lp.2 q2
        rw [treeB_no (.inr q2)]
        unfold F_law_is_tree_v2 p_law_is_tree_v2
        simp only [x_runF]
        simp -implicitDefEqProofs [e, q1', hw]
    · have q1' : ¬ ((ds.length : Int) = (N.length : Int) - 1) := by omega
      rw [treeB_no (.inl q1)]
      unfold F_law_is_tree_v2 p_law_is_tree_v2
      simp only [x_runF]
      simp -implicitDefEqProofs [q1']
  | _ =>
    unfold F_law_is_tree_v2 p_law_is_tree_v2
    simp only [x_runF]
    simp -implicitDefEqProofs [treeB]
theorem eqO_same {n : Nat} {d : PyData} (b : bdd n d) (hn : n ≤ 60) : eqO d d = some (.val (.bool true)) := by
  unfold eqO
  have := bdd_dep b
  rw [if_pos (by rw [Nat.min_self]; omega), PySem.SeqAt.eqv_refl_plain d (bdd_plain b)]
theorem ixN_in {n i : Nat} (h : i < n) : ixN n (i : Int) = some i := by
  unfold ixN
  rw [if_pos (by omega), if_pos (by omega)]
  simp
theorem cut_end1 {K : List Int} {z : Int} : cutI (K ++ [z]) (some (-1)) none = [z] := by
  unfold cutI HT.sIx
  simp
  have : (-1 + ((K.length : Int) + 1)).toNat = K.length := by omega
  rw [this]
  simp

end DL

noncomputable section
namespace DL
open PySem L2
def b_law_falling_v3_1 : DSt → Flow := fIfS (fB (fOp (lift2 neO) (fOp (lift2 inO) (fVar 5) (fVar 3)) (fOp (lift2 inO) (fVar 6) (fVar 3)))) (fDrop (fApp 4 (fOp (lift2 ixO) (fLst (fCons (fVar 5) (fCons (fVar 6) fNil))) (fCall intO (pCons (fOp (lift2 inO) (fVar 5) (fVar 3)) fNil))))) fnext
abbrev o_law_falling_v3_1 : List PyData → DSt → Flow := loopF (bTup 2 (bCons (bName 5) (bCons (bName 6) bNil))) b_law_falling_v3_1
def c_law_falling_v3_2 : M Bool := fB (fOp (lift2 ltO) (fCall lenO (pCons (fVar 3) fNil)) (fCall lenO (pCons (fVar 1) fNil)))
def b_law_falling_v3_3 : DSt → Flow := fseq (fSet 4 (fLst fNil)) (fseq (fFor (fLstI (fVar 2)) (bTup 2 (bCons (bName 5) (bCons (bName 6) bNil))) b_law_falling_v3_1) (fDrop (fApp 3 (fOp (lift2 ixO) (fVar 4) (fUser F_law_draw_v3 (fCons (fVar 0) (fCons (fCall lenO (pCons (fVar 4) fNil)) fNil)))))))
abbrev o_law_falling_v3_3 : DSt → Flow := whileF c_law_falling_v3_2 b_law_falling_v3_3 10000
def p_law_falling_v3 : DSt → Flow := fseq (fSet 3 (fLst (fCons (fOp (lift2 ixO) (fVar 1) (fUser F_law_draw_v3 (fCons (fVar 0) (fCons (fCall lenO (pCons (fVar 1) fNil)) fNil)))) fNil))) (fseq (whileF c_law_falling_v3_2 b_law_falling_v3_3 10000) (fRet (fVar 3)))
def F_law_falling_v3 : List R → Pw → FRes := runF 7 3 p_law_falling_v3
def b_law_folk_v14_1 : DSt → Flow := fseq (fSet 6 (fUser F_law_falling_v3 (fCons (fVar 0) (fCons (fVar 1) (fCons (fVar 2) fNil))))) (fseq (fIfS (fAnd (fB (fOp (lift2 eqO) (fVar 3) (fC (.int 2)))) (fAnd (fB (fOp (lift2 gtO) (fCall lenO (pCons (fVar 1) fNil)) (fC (.int 1)))) (fB (fOp (lift2 eqO) (fUser F_law_draw_v3 (fCons (fVar 0) (fCons (fC (.int 4)) fNil))) (fC (.int 0)))))) (fseq (fSet 7 (fUser F_law_draw_v3 (fCons (fVar 0) (fCons (fOp (lift2 subO) (fCall lenO (pCons (fVar 1) fNil)) (fC (.int 1))) fNil)))) (fSwap 6 (fTup (fCons (fOp (lift2 ixO) (fVar 6) (fOp (lift2 addO) (fVar 7) (fC (.int 1)))) (fCons (fOp (lift2 ixO) (fVar 6) (fVar 7)) fNil))) (fVar 7) (fOp (lift2 addO) (fVar 7) (fC (.int 1))))) fnext) (fseq (fIfS (fB (fOp (lift2 eqO) (fVar 3) (fC (.int 3)))) (fSet 6 (fUser F_law_shuffled_v3 (fCons (fVar 0) (fCons (fVar 1) fNil)))) fnext) (fseq (fIfS (fAnd (fB (fOp (lift2 neO) (fVar 4) (fLst fNil))) (fB (fOp (lift2 eqO) (fUser F_law_draw_v3 (fCons (fVar 0) (fCons (fC (.int 6)) fNil))) (fC (.int 0))))) (fSet 6 (fCall listO (pCons (fOp (lift2 ixO) (fVar 4) (fUser F_law_draw_v3 (fCons (fVar 0) (fCons (fCall lenO (pCons (fVar 4) fNil)) fNil)))) fNil))) fnext) (fDrop (fApp 4 (fVar 6))))))
abbrev o_law_folk_v14_1 : List PyData → DSt → Flow := loopF (bName 5) b_law_folk_v14_1
def p_law_folk_v14 : DSt → Flow := fseq (fSet 3 (fUser F_law_draw_v3 (fCons (fVar 0) (fCons (fC (.int 4)) fNil)))) (fseq (fSet 4 (fLst fNil)) (fseq (fFor (fRng1 (pCons (fOp (lift2 addO) (fC (.int 1)) (fUser F_law_draw_v3 (fCons (fVar 0) (fCons (fOp (lift2 ixO) (fLst (fCons (fC (.int 3)) (fCons (fC (.int 6)) (fCons (fC (.int 20)) fNil)))) (fUser F_law_draw_v3 (fCons (fVar 0) (fCons (fC (.int 3)) fNil)))) fNil)))) fNil)) (bName 5) b_law_folk_v14_1) (fRet (fVar 4))))
def F_law_folk_v14 : List R → Pw → FRes := runF 8 3 p_law_folk_v14
/-! what hangs together, said without lists; rankings drawn along a tree -/
theorem mem_passT {some : List Int} : ∀ {ties : List (Int × Int)} {found : List Int} {x : Int}, x ∈ found → x ∈ passT ties some found := by
  intro ties found x h
  obtain ⟨E, hE⟩ := passT_pre (ties := ties) (some := some) (found := found)
  rw [hE]
  exact List.mem_append_left _ h
theorem fix_step {some : List Int} : ∀ {ties : List (Int × Int)} {found : List Int}, passT ties some found = found → ∀ p ∈ ties, stepT some found p = found
  | [], _, _, p, hp => by simp at hp
  | q :: ties, found, h, p, hp => by
    have h1 : passT ties some (stepT some found q) = found := h
    obtain ⟨E, hE⟩ := stepT_pre (some := some) (found := found) (p := q)
    obtain ⟨F, hF⟩ := passT_pre (some := some) (ties := ties) (found := stepT some found q)
    rw [h1, hE, List.append_assoc] at hF
    have e : E ++ F = [] := List.append_cancel_left (hF.symm.trans (List.append_nil _).symm)
    have e2 : E = [] := (List.append_eq_nil_iff.mp e).1
    rw [e2, List.append_nil] at hE
    rcases List.mem_cons.mp hp with rfl | hp
    · exact hE
    · rw [hE] at h1
      exact fix_step h1 p hp
theorem step_same {some found : List Int} {p : Int × Int} (h : stepT some found p = found) (h1 : p.1 ∈ some) (h2 : p.2 ∈ some) : p.1 ∈ found ↔ p.2 ∈ found := by
  refine Classical.byContradiction fun c => ?_
  unfold stepT at h
  rw [if_pos ⟨h1, h2, c⟩] at h
  have e : [p.1, p.2].filter (fun x => decide (x ∉ found)) = [] := List.append_cancel_left (h.trans (List.append_nil _).symm)
  have h3 := List.filter_eq_nil_iff.mp e p.1 (by simp)
  have h4 := List.filter_eq_nil_iff.mp e p.2 (by simp)
  simp at h3 h4
  exact c ⟨fun _ => h4, fun _ => h3⟩
def Conn (T : List (Int × Int)) (some : List Int) (x : Int) : Prop := ∀ F : Int → Prop, F x → (∀ p ∈ T, p.1 ∈ some → p.2 ∈ some → (F p.1 ↔ F p.2)) → ∀ y ∈ some, F y
theorem itT_in {T : List (Int × Int)} {some : List Int} {F : Int → Prop} (hF : ∀ p ∈ T, p.1 ∈ some → p.2 ∈ some → (F p.1 ↔ F p.2)) {found : List Int} (h : ∀ x ∈ found, F x) : ∀ n, ∀ x ∈ itT T some found n, F x
  | 0 => h
  | n + 1 => by
    have ih := itT_in hF h n
    have go : ∀ (S : List (Int × Int)) (g : List Int), (∀ p ∈ S, p ∈ T) → (∀ x ∈ g, F x) → ∀ x ∈ passT S some g, F x := by
      intro S
      induction S with
      | nil => intro g _ h x hx; exact h x hx
      | cons p S ih2 =>
        intro g hS hg x hx
        refine ih2 (stepT some g p) (fun q hq => hS q (List.mem_cons_of_mem _ hq)) (fun y hy => ?_) x hx
        unfold stepT at hy
        split at hy
        · rename_i c
          obtain ⟨c1, c2, c3⟩ := c
          have hp := hF p (hS p List.mem_cons_self) c1 c2
          rcases List.mem_append.mp hy with hy | hy
          · exact hg y hy
          · simp at hy
            have q : F p.1 ∧ F p.2 := by
              by_cases z : p.1 ∈ g
              · exact ⟨hg _ z, hp.mp (hg _ z)⟩
              · have : p.2 ∈ g := Classical.byContradiction fun z2 => c3 ⟨fun a => (z a).elim, fun a => (z2 a).elim⟩
                exact ⟨hp.mpr (hg _ this), hg _ this⟩
            rcases hy.1 with e | e <;> rw [e]
            · exact q.1
            · exact q.2
        · exact hg y hy
    exact go T _ (fun p hp => hp) ih
theorem mem_itT {T : List (Int × Int)} {some found : List Int} {x : Int} (h : x ∈ found) : ∀ n, x ∈ itT T some found n
  | 0 => h
  | n + 1 => mem_passT (mem_itT h n)
theorem clT_iff {T : List (Int × Int)} {some : List Int} {x : Int} (hn : some.Nodup) (hx : x ∈ some) : (clT T some x).length = some.length ↔ Conn T some x := by
  have ok : OkF some (clT T some x) := itT_ok ⟨by simp, fun y hy => by rw [List.mem_singleton] at hy; rw [hy]; exact hx⟩ _
  constructor
  · intro h F h1 h2 y hy
    have sub : y ∈ clT T some x := Classical.byContradiction fun z => by
      have nd : (y :: clT T some x).Nodup := List.nodup_cons.mpr ⟨z, ok.1⟩
      have := List.Nodup.length_le_of_subset nd (l₂ := some) fun u hu => by
        rcases List.mem_cons.mp hu with rfl | hu
        · exact hy
        · exact ok.2 u hu
      rw [List.length_cons] at this
      omega
    exact itT_in h2 (found := [x]) (fun z hz => by rw [List.mem_singleton] at hz; rw [hz]; exact h1) some.length y sub
  · intro h
    have al : ∀ y ∈ some, y ∈ clT T some x := h (fun y => y ∈ clT T some x) (mem_itT (by simp) _) fun p hp h1 h2 => step_same (fix_step (clT_fix hx) p hp) h1 h2
    have l1 := okF_len ok
    have l2 := List.Nodup.length_le_of_subset hn (fun y hy => al y hy)
    omega
/-! ### trees as they are made -/
theorem tieP_ends (a b : Int) : ((tieP a b).1 = a ∧ (tieP a b).2 = b) ∨ ((tieP a b).1 = b ∧ (tieP a b).2 = a) := by
  unfold tieP
  dsimp only
  omega
theorem tie_iff {F : Int → Prop} {a b : Int} (h : F (tieP a b).1 ↔ F (tieP a b).2) : F a ↔ F b := by
  rcases tieP_ends a b with ⟨e1, e2⟩ | ⟨e1, e2⟩ <;> rw [e1, e2] at h
  · exact h
  · exact h.symm
theorem genT_mem {N : List Int} {T : List (Int × Int)} (h : GenT N T) : ∃ (L : List Int) (f : Nat → Nat), L.Perm N ∧ (∀ k, 0 < k → k < L.length → f k < k) ∧ T.length = L.length - 1 ∧ ∀ p, p ∈ T ↔ ∃ k, 0 < k ∧ k < L.length ∧ p = tieP (L.getD k 0) (L.getD (f k) 0) := by
  obtain ⟨L, f, hp, hf, rfl⟩ := h
  refine ⟨L, f, hp, hf, by rw [(sortPr_perm _).length_eq, List.length_map, List.length_range'], fun p => ?_⟩
  rw [(sortPr_perm _).mem_iff, List.mem_map]
  constructor
  · rintro ⟨k, hk, rfl⟩
    rw [List.mem_range'_1] at hk
    exact ⟨k, by omega, by omega, rfl⟩
  · rintro ⟨k, h1, h2, rfl⟩
    exact ⟨k, by rw [List.mem_range'_1]; omega, rfl⟩
theorem genT_all {N : List Int} {T : List (Int × Int)} (h : GenT N T) {F : Int → Prop} (hF : ∀ p ∈ T, (F p.1 ↔ F p.2)) {x : Int} (hx : x ∈ N) (h1 : F x) : ∀ y ∈ N, F y := by
  obtain ⟨L, f, hp, hf, _, hm⟩ := genT_mem h
  have key : ∀ k, k < L.length → (F (L.getD k 0) ↔ F (L.getD 0 0)) := by
    intro k
    induction k using Nat.strongRecOn with
    | ind k ih =>
      intro hk
      by_cases z : k = 0
      · rw [z]
      · have hk0 : 0 < k := by omega
        have q := tie_iff (hF _ ((hm _).mpr ⟨k, hk0, hk, rfl⟩))
        exact q.trans (ih (f k) (hf k hk0 hk) (by have := hf k hk0 hk; omega))
  have at' : ∀ z ∈ N, ∃ k, k < L.length ∧ L.getD k 0 = z := fun z hz => by
    obtain ⟨k, hk, e⟩ := List.getElem_of_mem (hp.mem_iff.mpr hz)
    exact ⟨k, hk, by rw [List.getD_eq_getElem?_getD, List.getElem?_eq_getElem hk]; exact e⟩
  intro y hy
  obtain ⟨i, hi, ei⟩ := at' x hx
  obtain ⟨j, hj, ej⟩ := at' y hy
  have a := key i hi
  have b := key j hj
  rw [ei] at a
  rw [ej] at b
  exact b.mpr (a.mp h1)
theorem genT_in {N : List Int} {T : List (Int × Int)} (h : GenT N T) : ∀ p ∈ T, p.1 ∈ N ∧ p.2 ∈ N := by
  obtain ⟨L, f, hp, hf, _, hm⟩ := genT_mem h
  intro p q
  obtain ⟨k, h1, h2, rfl⟩ := (hm p).mp q
  have m : ∀ j, j < L.length → L.getD j 0 ∈ N := fun j hj => by
    rw [List.getD_eq_getElem?_getD, List.getElem?_eq_getElem hj]
    exact hp.mem_iff.mp (List.getElem_mem hj)
  have m1 := m k h2
  have m2 := m (f k) (by have := hf k h1 h2; omega)
  rcases tieP_ends (L.getD k 0) (L.getD (f k) 0) with ⟨e1, e2⟩ | ⟨e1, e2⟩ <;> rw [e1, e2]
  · exact ⟨m1, m2⟩
  · exact ⟨m2, m1⟩
/-! ### rankings that fall -/
/-- each name behind the first is tied to one ahead -/
def Fal (T : List (Int × Int)) (r : List Int) : Prop := ∀ k, 0 < k → k < r.length → ∃ j, j < k ∧ tieP (r.getD j 0) (r.getD k 0) ∈ T
theorem getD_app {l m : List Int} {i : Nat} (h : i < l.length) : (l ++ m).getD i 0 = l.getD i 0 := by
  rw [List.getD_eq_getElem?_getD, List.getD_eq_getElem?_getD, List.getElem?_append_left h]
theorem fal_snoc {T : List (Int × Int)} {r : List Int} {y : Int} (h : Fal T r) (hy : ∃ x ∈ r, tieP x y ∈ T) : Fal T (r ++ [y]) := by
  intro k h0 hk
  rw [List.length_append, List.length_singleton] at hk
  by_cases z : k < r.length
  · obtain ⟨j, hj, m⟩ := h k h0 z
    refine ⟨j, hj, ?_⟩
    rw [getD_app (by omega), getD_app z]
    exact m
  · have : k = r.length := by omega
    subst this
    obtain ⟨x, hx, m⟩ := hy
    obtain ⟨j, hj, e⟩ := List.getElem_of_mem hx
    refine ⟨j, hj, ?_⟩
    have e1 : (r ++ [y]).getD r.length 0 = y := by simp [List.getD_eq_getElem?_getD]
    have e2 : (r ++ [y]).getD j 0 = x := by rw [getD_app hj, List.getD_eq_getElem?_getD, List.getElem?_eq_getElem hj]; exact e
    rw [e1, e2]
    exact m
def nearL (found : List Int) (T : List (Int × Int)) : List Int := (T.filter fun p => decide (¬ (p.1 ∈ found ↔ p.2 ∈ found))).map fun p => if p.1 ∈ found then p.2 else p.1
theorem mem_near {found : List Int} {T : List (Int × Int)} {y : Int} (ht : ∀ p ∈ T, p.1 < p.2) (h : y ∈ nearL found T) : y ∉ found ∧ (∃ x ∈ found, tieP x y ∈ T) ∧ ∃ p ∈ T, y = p.1 ∨ y = p.2 := by
  obtain ⟨p, hp, rfl⟩ := List.mem_map.mp h
  obtain ⟨hp, hc⟩ := List.mem_filter.mp hp
  have hc := of_decide_eq_true hc
  have hl := ht p hp
  by_cases z : p.1 ∈ found
  · rw [if_pos z]
    have z2 : p.2 ∉ found := fun q => hc ⟨fun _ => q, fun _ => z⟩
    refine ⟨z2, ⟨p.1, z, ?_⟩, p, hp, .inr rfl⟩
    have : tieP p.1 p.2 = p := by unfold tieP; rw [Int.min_eq_left (by omega), Int.max_eq_right (by omega)]
    rw [this]; exact hp
  · rw [if_neg z]
    have z2 : p.2 ∈ found := Classical.byContradiction fun q => hc ⟨fun a => (z a).elim, fun a => (q a).elim⟩
    refine ⟨z, ⟨p.2, z2, ?_⟩, p, hp, .inl rfl⟩
    have : tieP p.2 p.1 = p := by unfold tieP; rw [Int.min_eq_right (by omega), Int.max_eq_left (by omega)]
    rw [this]; exact hp
theorem near_pos {N found : List Int} {T : List (Int × Int)} (h : GenT N T) {x y : Int} (hx : x ∈ found) (hN : ∀ z ∈ found, z ∈ N) (hy : y ∈ N) (hy2 : y ∉ found) : 0 < (nearL found T).length := by
  refine Classical.byContradiction fun c => hy2 ?_
  have e : nearL found T = [] := List.length_eq_zero_iff.mp (by omega)
  have e := List.filter_eq_nil_iff.mp (List.map_eq_nil_iff.mp e)
  refine genT_all h (F := fun z => z ∈ found) (fun p hp => ?_) (hN x hx) hx y hy
  have := e p hp
  simpa using this
theorem genT_lt {N : List Int} {T : List (Int × Int)} (hN : N.Nodup) (h : GenT N T) : ∀ p ∈ T, p.1 < p.2 := by
  obtain ⟨L, f, hp, hf, _, hm⟩ := genT_mem h
  intro p q
  obtain ⟨k, h1, h2, rfl⟩ := (hm p).mp q
  have h3 := hf k h1 h2
  have nl : L.Nodup := hp.nodup_iff.mpr hN
  have ne : L.getD k 0 ≠ L.getD (f k) 0 := by
    rw [List.getD_eq_getElem?_getD, List.getD_eq_getElem?_getD, List.getElem?_eq_getElem h2, List.getElem?_eq_getElem (show f k < L.length by omega)]
    intro e
    have := (List.getElem_inj nl).mp (show L[k] = L[f k] from e)
    omega
  unfold tieP
  dsimp only
  omega
theorem draw_atC {pa : Addr} {w : Pw} {m : Int} {α : Type} {xs : List α} (h : LP pa w m) (hm : m < 2 ^ 37) (h0 : 0 < xs.length) (h1 : xs.length ≤ 1000) : ∃ (i : Nat) (x : α) (w' : Pw), F_law_draw_v3 [.raw (.ref pa), .val (.int ((xs.length : Nat) : Int))] w = .ok (.val (.int ((i : Nat) : Int))) w' ∧ i < xs.length ∧ xs[i]? = some x ∧ x ∈ xs ∧ LP pa w' (m + 1) := by
  obtain ⟨r, w', e, r0, r1, q⟩ := draw2_ok (b := (xs.length : Int)) h (by omega) (by omega) (by omega)
  obtain ⟨i, rfl⟩ := Int.eq_ofNat_of_zero_le r0
  have hi : i < xs.length := by omega
  exact ⟨i, xs[i], w', e, hi, List.getElem?_eq_getElem hi, List.getElem_mem hi, q⟩
theorem perm_of_sub {l m : List Int} (hl : l.Nodup) (hs : ∀ x ∈ l, x ∈ m) (h : m.length ≤ l.length) : l.Perm m := by
  induction l generalizing m with
  | nil =>
    have : m = [] := List.length_eq_zero_iff.mp (by simpa using h)
    rw [this]
  | cons x l ih =>
    have hx := hs x List.mem_cons_self
    obtain ⟨nx, nl⟩ := List.nodup_cons.mp hl
    have p := List.perm_cons_erase hx
    refine (List.Perm.cons x (ih nl (fun y hy => ?_) ?_)).trans p.symm
    · refine (List.mem_erase_of_ne fun e => ?_).mpr (hs y (List.mem_cons_of_mem _ hy))
      subst e
      exact nx hy
    · have := p.length_eq
      simp at this h
      omega
/-! ### the walks -/
theorem near_step {pa : Addr} {N found : List Int} {T : List (Int × Int)} {near : List Int} {p : Int × Int} {w : Pw} {s5 s6 : Sl} (hl : near.length ≤ 1000) : bod (bTup 2 (bCons (bName 5) (bCons (bName 6) bNil))) b_law_falling_v3_1 (prT p) ⟨[.raw (.ref pa), .val (.list ((N).map .int)), .val (.list ((T).map prT)), .own (found.map .int), .own (near.map .int), s5, s6], w⟩ = .next ⟨[.raw (.ref pa), .val (.list ((N).map .int)), .val (.list ((T).map prT)), .own (found.map .int), .own ((near ++ nearL found [p]).map .int), .val (.int (p.1)), .val (.int (p.2))], w⟩ := by
  obtain ⟨a, b⟩ := p
  have lt : ltS near.length := size_lt (by omega)
  unfold b_law_falling_v3_1 nearL
  by_cases h1 : a ∈ found <;> by_cases h2 : b ∈ found <;> simp -implicitDefEqProofs [prT, h1, h2, lt]
theorem nearL_app {found : List Int} {S T : List (Int × Int)} : nearL found (S ++ T) = nearL found S ++ nearL found T := by
  unfold nearL
  rw [List.filter_append, List.map_append]
theorem nearL_len {found : List Int} {T : List (Int × Int)} : (nearL found T).length ≤ T.length := by
  unfold nearL
  rw [List.length_map]
  exact List.length_filter_le _ _
theorem near_ok {pa : Addr} {N found : List Int} {T : List (Int × Int)} {w : Pw} {s5 s6 : Sl} (hl : T.length ≤ 1000) : ∃ t5 t6, loopF (bTup 2 (bCons (bName 5) (bCons (bName 6) bNil))) b_law_falling_v3_1 (T.map prT) ⟨[.raw (.ref pa), .val (.list ((N).map .int)), .val (.list ((T).map prT)), .own (found.map .int), .own [], s5, s6], w⟩ = .next ⟨[.raw (.ref pa), .val (.list ((N).map .int)), .val (.list ((T).map prT)), .own (found.map .int), .own ((nearL found T).map .int), t5, t6], w⟩ := by
  obtain ⟨s', e, t5, t6, rfl⟩ := loopN (b := bTup 2 (bCons (bName 5) (bCons (bName 6) bNil))) (p := b_law_falling_v3_1) (f := prT) (l := T) (s := ⟨[.raw (.ref pa), .val (.list ((N).map .int)), .val (.list ((T).map prT)), .own (found.map .int), .own [], s5, s6], w⟩)
    (fun i s => ∃ t5 t6, s = ⟨[.raw (.ref pa), .val (.list ((N).map .int)), .val (.list ((T).map prT)), .own (found.map .int), .own ((nearL found (T.take i)).map .int), t5, t6], w⟩) ⟨_, _, rfl⟩ (by
      rintro i p s hi hp ⟨t5, t6, rfl⟩
      have ll := nearL_len (found := found) (T := T.take i)
      rw [List.length_take] at ll
      rw [near_step (by omega), take_succ hi, nearL_app]
      exact ⟨_, rfl, _, _, rfl⟩)
  rw [List.take_length] at e
  exact ⟨t5, t6, e⟩
theorem falling_ok {pa : Addr} {w : Pw} {m : Int} {N : List Int} {T : List (Int × Int)} (h : LP pa w m) (hm : m < 2 ^ 36) (hN : N.Nodup) (h0 : 0 < N.length) (h10 : N.length ≤ 100) (hT : GenT N T) : ∃ (r : List Int) (w' : Pw), F_law_falling_v3 [.raw (.ref pa), .val (.list ((N).map .int)), .val (.list ((T).map prT))] w = .ok (.new (r.map .int)) w' ∧ r.Perm N ∧ Fal T r ∧ LP pa w' (m + 200) := by
  have lT : T.length ≤ 100 := by
    obtain ⟨L, f, hp, _, e, _⟩ := genT_mem hT
    have := hp.length_eq
    omega
  have lt := genT_lt hN hT
  obtain ⟨i, x, w1, e1, hi, ex, mx, q1⟩ := draw_atC (xs := N) h (by omega) h0 (by omega)
  have ax : atI (N.map PyData.int) (i : Int) = some (.int x) := by rw [atI_mapF, atI_nat, ex]; rfl
  obtain ⟨s', e, ⟨r, w', s4, s5, s6, ⟨r0, rn, rs, rf, rq⟩, rfl⟩, hc⟩ := whileF_inv (c := c_law_falling_v3_2) (p := b_law_falling_v3_3) (s := ⟨[.raw (.ref pa), .val (.list ((N).map .int)), .val (.list ((T).map prT)), .own [.int x], .no, .no, .no], w1⟩)
    (fun s => ∃ (r : List Int) (w' : Pw) (s4 s5 s6 : Sl), (0 < r.length ∧ r.Nodup ∧ (∀ z ∈ r, z ∈ N) ∧ Fal T r ∧ LP pa w' (m + r.length)) ∧ s = ⟨[.raw (.ref pa), .val (.list ((N).map .int)), .val (.list ((T).map prT)), .own (r.map .int), s4, s5, s6], w'⟩)
    (fun s => 1000 - (match s.d with | [_, _, _, .own ds, _, _, _] => ds.length | _ => 0)) 10000 ⟨[x], w1, .no, .no, .no, ⟨by simp, by simp, fun z hz => by rw [List.mem_singleton] at hz; rw [hz]; exact mx, fun k k0 k1 => by simp at k1; omega, by simpa using q1⟩, rfl⟩ (by simp) (by
      rintro s ⟨r, w2, s4, s5, s6, ⟨r0, rn, rs, rf, rq⟩, rfl⟩
      have ll := List.Nodup.length_le_of_subset rn rs
      by_cases q : r.length < N.length
      · refine .inl ⟨_, by unfold c_law_falling_v3_2; simp -implicitDefEqProofs [q]; rfl, ?_⟩
        obtain ⟨t5, t6, ep⟩ := near_ok (pa := pa) (N := N) (found := r) (T := T) (w := w2) (s5 := s5) (s6 := s6) (by omega)
        obtain ⟨y, hy, hy2⟩ : ∃ y ∈ N, y ∉ r := Classical.byContradiction fun c => by
          have := List.Nodup.length_le_of_subset hN (fun z hz => Classical.byContradiction fun c2 => c ⟨z, hz, c2⟩ : ∀ z ∈ N, z ∈ r)
          omega
        obtain ⟨x0, hx0⟩ : ∃ x0, x0 ∈ r := ⟨r[0], List.getElem_mem r0⟩
        have np := near_pos hT hx0 rs hy hy2
        have nl := nearL_len (found := r) (T := T)
        obtain ⟨j, z, w3, e3, hj, ez, mz, q3⟩ := draw_atC (xs := nearL r T) rq (by omega) np (by omega)
        obtain ⟨mz1, mz2, ⟨p, hp, hz⟩⟩ := mem_near lt mz
        have az : atI ((nearL r T).map PyData.int) (j : Int) = some (.int z) := by rw [atI_mapF, atI_nat, ez]; rfl
        have mzN : z ∈ N := by
          have := genT_in hT p hp
          rcases hz with e | e <;> rw [e]
          · exact this.1
          · exact this.2
        obtain ⟨M, hM⟩ : ∃ M, M = nearL r T := ⟨_, rfl⟩
        rw [← hM] at ep e3 az
        have ltS1 : ltS r.length := size_lt (by omega)
        have em : r.map PyData.int ++ [.int z] = (r ++ [z]).map .int := by simp
        refine ⟨⟨[.raw (.ref pa), .val (.list ((N).map .int)), .val (.list ((T).map prT)), .own ((r ++ [z]).map .int), .own (M.map .int), t5, t6], w3⟩, ?_, ⟨r ++ [z], w3, _, t5, t6, ⟨by simp, ?_, ?_, fal_snoc rf mz2, by rw [List.length_append, List.length_singleton]; exact q3.mono (by omega)⟩, rfl⟩, ?_⟩
        · unfold b_law_falling_v3_3
          simp -implicitDefEqProofs [ep, e3, az, ltS1, em, -List.map_append, -map_int_inj]
        · rw [List.nodup_append]
          exact ⟨rn, by simp, fun a ha b hb e => by rw [List.mem_singleton] at hb; subst hb; subst e; exact mz1 ha⟩
        · intro u hu
          rcases List.mem_append.mp hu with hu | hu
          · exact rs u hu
          · rw [List.mem_singleton] at hu; rw [hu]; exact mzN
        · show 1000 - ((r ++ [z]).map PyData.int).length < 1000 - (r.map PyData.int).length
          rw [List.length_map, List.length_map, List.length_append, List.length_singleton]
          omega
      · exact .inr (by unfold c_law_falling_v3_2; simp -implicitDefEqProofs [q]))
  have q : ¬ r.length < N.length := by
    intro q
    unfold c_law_falling_v3_2 at hc
    simp -implicitDefEqProofs [q] at hc
  have ll := List.Nodup.length_le_of_subset rn rs
  refine ⟨r, w', ?_, perm_of_sub rn rs (by omega), rf, rq.mono (by omega)⟩
  have s1 : leS 1 := size_le (by omega)
  unfold F_law_falling_v3 p_law_falling_v3
  simp only [x_runF]
  simp -implicitDefEqProofs [e1, ax, s1, e]
theorem draw_lit {pa : Addr} {w : Pw} {m b : Int} (h : LP pa w m) (b0 : 0 < b) (b1 : b < 2 ^ 100) (hm : m < 2 ^ 37) : ∃ (r : Nat) (w' : Pw), F_law_draw_v3 [.raw (.ref pa), .val (.int (b))] w = .ok (.val (.int ((r : Nat) : Int))) w' ∧ (r : Int) < b ∧ LP pa w' (m + 1) := by
  obtain ⟨r, w', e, r0, r1, q⟩ := draw2_ok h b0 b1 (by omega)
  obtain ⟨r, rfl⟩ := Int.eq_ofNat_of_zero_le r0
  exact ⟨r, w', e, r1, q⟩
theorem swap_permC {r : List Int} {k : Nat} (h : k + 1 < r.length) : ((r.set k r[k+1]).set (k + 1) r[k]).Perm r := by
  have e : (r.set k r[k+1]).set (k + 1) r[k] = r.take k ++ r[k+1] :: r[k] :: r.drop (k + 2) := by
    apply List.ext_getElem?
    intro i
    by_cases h1 : i < k
    · rw [List.getElem?_set_ne (by omega), List.getElem?_set_ne (by omega), List.getElem?_append_left (by rw [List.length_take]; omega), List.getElem?_take_of_lt h1]
    · rw [List.getElem?_append_right (by rw [List.length_take]; omega), List.length_take, Nat.min_eq_left (by omega)]
      by_cases h2 : i = k
      · subst h2
        rw [List.getElem?_set_ne (by omega), List.getElem?_set_self (by omega), Nat.sub_self]
        rfl
      · by_cases h3 : i = k + 1
        · subst h3
          rw [List.getElem?_set_self (by rw [List.length_set]; omega), show k + 1 - k = 1 by omega]
          rfl
        · rw [List.getElem?_set_ne (by omega), List.getElem?_set_ne (by omega), show i - k = (i - (k + 2)) + 2 by omega]
          simp only [List.getElem?_cons_succ, List.getElem?_drop]
          congr 1
          omega
  rw [e]
  have e2 : r = r.take k ++ r[k] :: r[k+1] :: r.drop (k + 2) := by
    have h1 := List.drop_eq_getElem_cons (show k < r.length by omega)
    have h2 := List.drop_eq_getElem_cons h
    rw [← h2, ← h1, List.take_append_drop]
  conv => rhs; rw [e2]
  exact List.Perm.append_left _ (List.Perm.swap _ _ _)
theorem folk14_ok {pa : Addr} {w : Pw} {m : Int} {N : List Int} {T : List (Int × Int)} (h : LP pa w m) (hm : m < 2 ^ 35) (hN : N.Nodup) (h0 : 0 < N.length) (h10 : N.length ≤ 100) (hT : GenT N T) : ∃ (f : List (List Int)) (w' : Pw), F_law_folk_v14 [.raw (.ref pa), .val (.list ((N).map .int)), .val (.list ((T).map prT))] w = .ok (.new (f.map llD)) w' ∧ 0 < f.length ∧ f.length ≤ 20 ∧ (∀ r ∈ f, r.Perm N) ∧ LP pa w' (m + 100000) := by
  obtain ⟨way, w1, e1, y1, q1⟩ := draw_lit (b := 4) h (by omega) (by omega) (by omega)
  obtain ⟨c, w2, e2, c1, q2⟩ := draw_lit (b := 3) q1 (by omega) (by omega) (by omega)
  obtain ⟨b, eb, b0, b1⟩ : ∃ b : Int, atI [PyData.int 3, .int 6, .int 20] (c : Int) = some (.int b) ∧ 0 < b ∧ b ≤ 20 := by
    have : c = 0 ∨ c = 1 ∨ c = 2 := by omega
    rcases this with q | q | q <;> rw [q]
    · exact ⟨3, rfl, by omega, by omega⟩
    · exact ⟨6, rfl, by omega, by omega⟩
    · exact ⟨20, rfl, by omega, by omega⟩
  obtain ⟨n, w3, e3, n1, q3⟩ := draw_lit (b := b) q2 (by omega) (by omega) (by omega)
  obtain ⟨s', e, f, w', s5, s6, s7, ⟨lf, pf⟩, qf, rfl⟩ := loopN (b := bName 5) (p := b_law_folk_v14_1) (f := fun k : Nat => PyData.int (0 + (k : Int))) (l := List.range (1 + n)) (s := ⟨[.raw (.ref pa), .val (.list ((N).map .int)), .val (.list ((T).map prT)), .val (.int ((way : Nat) : Int)), .own [], .no, .no, .no], w3⟩)
    (fun i s => ∃ (f : List (List Int)) (w' : Pw) (s5 s6 s7 : Sl), (f.length = i ∧ ∀ r ∈ f, r.Perm N) ∧ LP pa w' (m + 10 + 2000 * i) ∧ s = ⟨[.raw (.ref pa), .val (.list ((N).map .int)), .val (.list ((T).map prT)), .val (.int ((way : Nat) : Int)), .own (f.map llD), s5, s6, s7], w'⟩) ⟨[], w3, _, _, _, ⟨rfl, by simp⟩, q3.mono (by omega), rfl⟩ (by
      rintro i k s hi hk ⟨f, w4, s5, s6, s7, ⟨lf, pf⟩, qf, rfl⟩
      obtain ⟨rfl, hkn⟩ := range_at hi
      have k20 : k < 21 := by omega
      obtain ⟨r, w5, e5, pr, _, q5⟩ := falling_ok qf (by omega) hN h0 h10 hT
      have lr := pr.length_eq
      -- two neighbours
      obtain ⟨r2, w6, s7', e6, pr2, q6⟩ : ∃ (r2 : List Int) (w6 : Pw) (s7' : Sl), (fIfS (fAnd (fB (fOp (lift2 eqO) (fVar 3) (fC (.int 2)))) (fAnd (fB (fOp (lift2 gtO) (fCall lenO (pCons (fVar 1) fNil)) (fC (.int 1)))) (fB (fOp (lift2 eqO) (fUser F_law_draw_v3 (fCons (fVar 0) (fCons (fC (.int 4)) fNil))) (fC (.int 0)))))) (fseq (fSet 7 (fUser F_law_draw_v3 (fCons (fVar 0) (fCons (fOp (lift2 subO) (fCall lenO (pCons (fVar 1) fNil)) (fC (.int 1))) fNil)))) (fSwap 6 (fTup (fCons (fOp (lift2 ixO) (fVar 6) (fOp (lift2 addO) (fVar 7) (fC (.int 1)))) (fCons (fOp (lift2 ixO) (fVar 6) (fVar 7)) fNil))) (fVar 7) (fOp (lift2 addO) (fVar 7) (fC (.int 1))))) fnext) ⟨[.raw (.ref pa), .val (.list ((N).map .int)), .val (.list ((T).map prT)), .val (.int ((way : Nat) : Int)), .own (f.map llD), .val (.int (0 + (k : Int))), .own (r.map .int), s7], w5⟩ = .next ⟨[.raw (.ref pa), .val (.list ((N).map .int)), .val (.list ((T).map prT)), .val (.int ((way : Nat) : Int)), .own (f.map llD), .val (.int (0 + (k : Int))), .own (r2.map .int), s7'], w6⟩ ∧ r2.Perm N ∧ LP pa w6 (m + 10 + 2000 * k + 210) := by
        by_cases c1 : way = 2 ∧ 1 < N.length
        · obtain ⟨c1, c2⟩ := c1
          obtain ⟨x, w6, e6, x1, q6⟩ := draw_lit (b := 4) q5 (by omega) (by omega) (by omega)
          by_cases c3 : x = 0
          · obtain ⟨j, w7, e7, j1, q7⟩ := draw_lit (b := (N.length : Int) - 1) q6 (by omega) (by omega) (by omega)
            have hj : j + 1 < r.length := by omega
            refine ⟨(r.set j r[j+1]).set (j + 1) r[j], w7, .val (.int ((j : Nat) : Int)), ?_, (swap_permC hj).trans pr, q7.mono (by omega)⟩
            have a1 : atI (r.map PyData.int) ((j : Int) + 1) = some (.int r[j+1]) := by
              rw [show ((j : Int) + 1) = ((j + 1 : Nat) : Int) by omega, atI_nat, List.getElem?_map, List.getElem?_eq_getElem hj]; rfl
            have a2 : atI (r.map PyData.int) (j : Int) = some (.int r[j]) := by
              rw [atI_nat, List.getElem?_map, List.getElem?_eq_getElem (show j < r.length by omega)]; rfl
            have i1 : ixN r.length (j : Int) = some j := ixN_in (by omega)
            have i2 : ixN r.length ((j : Int) + 1) = some (j + 1) := by rw [show ((j : Int) + 1) = ((j + 1 : Nat) : Int) by omega]; exact ixN_in hj
            have s2 : leS 2 := size_le (by omega)
            have em : ((r.map PyData.int).set j (.int r[j+1])).set (j + 1) (.int r[j]) = ((r.set j r[j+1]).set (j + 1) r[j]).map .int := by rw [List.map_set, List.map_set]
            have c2' : ((1 : Int) < (N.length : Int)) = True := eq_true (by omega)
            obtain ⟨u, hu⟩ : ∃ u, u = r[j+1] := ⟨_, rfl⟩
            obtain ⟨v, hv⟩ : ∃ v, v = r[j] := ⟨_, rfl⟩
            rw [← hu] at a1 em
            rw [← hv] at a2 em
            rw [← hu, ← hv]
            subst c1 c3
            simp -implicitDefEqProofs [c2', e6, e7, a1, a2, i1, i2, s2, em, -List.map_set]
          · refine ⟨r, w6, s7, ?_, pr, q6.mono (by omega)⟩
            have c2' : ((1 : Int) < (N.length : Int)) = True := eq_true (by omega)
            have c3' : ((x : Int) = 0) = False := eq_false (by omega)
            subst c1
            simp -implicitDefEqProofs [c2', e6, c3]
        · refine ⟨r, w5, s7, ?_, pr, q5.mono (by omega)⟩
          by_cases c2 : way = 2
          · have c3 : ((1 : Int) < (N.length : Int)) = False := eq_false (by omega)
            subst c2
            simp -implicitDefEqProofs [c3]
          · have c3 : ((way : Int) = 2) = False := eq_false (by omega)
            simp -implicitDefEqProofs [c3]
      -- any
      obtain ⟨r3, w7, e7, pr3, q7⟩ : ∃ (r3 : List Int) (w7 : Pw), (fIfS (fB (fOp (lift2 eqO) (fVar 3) (fC (.int 3)))) (fSet 6 (fUser F_law_shuffled_v3 (fCons (fVar 0) (fCons (fVar 1) fNil)))) fnext) ⟨[.raw (.ref pa), .val (.list ((N).map .int)), .val (.list ((T).map prT)), .val (.int ((way : Nat) : Int)), .own (f.map llD), .val (.int (0 + (k : Int))), .own (r2.map .int), s7'], w6⟩ = .next ⟨[.raw (.ref pa), .val (.list ((N).map .int)), .val (.list ((T).map prT)), .val (.int ((way : Nat) : Int)), .own (f.map llD), .val (.int (0 + (k : Int))), .own (r3.map .int), s7'], w7⟩ ∧ r3.Perm N ∧ LP pa w7 (m + 10 + 2000 * k + 1300) := by
        by_cases c1 : way = 3
        · obtain ⟨r3, w7, e7, p3, q7⟩ := shuffled3_ok (N := N) q6 (by omega) (by omega)
          refine ⟨r3, w7, ?_, p3, q7.mono (by omega)⟩
          subst c1
          simp -implicitDefEqProofs [e7]
        · have c3 : ((way : Int) = 3) = False := eq_false (by omega)
          exact ⟨r2, w6, by simp -implicitDefEqProofs [c3], pr2, q6.mono (by omega)⟩
      obtain ⟨r4, w8, e8, pr4, q8⟩ : ∃ (r4 : List Int) (w8 : Pw), (fIfS (fAnd (fB (fOp (lift2 neO) (fVar 4) (fLst fNil))) (fB (fOp (lift2 eqO) (fUser F_law_draw_v3 (fCons (fVar 0) (fCons (fC (.int 6)) fNil))) (fC (.int 0))))) (fSet 6 (fCall listO (pCons (fOp (lift2 ixO) (fVar 4) (fUser F_law_draw_v3 (fCons (fVar 0) (fCons (fCall lenO (pCons (fVar 4) fNil)) fNil)))) fNil))) fnext) ⟨[.raw (.ref pa), .val (.list ((N).map .int)), .val (.list ((T).map prT)), .val (.int ((way : Nat) : Int)), .own (f.map llD), .val (.int (0 + (k : Int))), .own (r3.map .int), s7'], w7⟩ = .next ⟨[.raw (.ref pa), .val (.list ((N).map .int)), .val (.list ((T).map prT)), .val (.int ((way : Nat) : Int)), .own (f.map llD), .val (.int (0 + (k : Int))), .own (r4.map .int), s7'], w8⟩ ∧ r4.Perm N ∧ LP pa w8 (m + 10 + 2000 * ((k + 1 : Nat) : Int)) := by
        by_cases c1 : f = []
        · subst c1
          exact ⟨r3, w7, by simp -implicitDefEqProofs, pr3, q7.mono (by omega)⟩
        · have f0 : 0 < f.length := List.length_pos_iff.mpr c1
          have nf : (f.map llD).isEmpty = false := by
            rw [Bool.eq_false_iff]
            intro z
            rw [List.isEmpty_iff, List.map_eq_nil_iff] at z
            exact c1 z
          obtain ⟨x, w8, e8, x1, q8⟩ := draw_lit (b := 6) q7 (by omega) (by omega) (by omega)
          by_cases c3 : x = 0
          · obtain ⟨j, r4, w9, e9, j1, j2, m4, q9⟩ := draw_atC (xs := f) q8 (by omega) f0 (by omega)
            have aj : atI (f.map llD) (j : Int) = some (llD r4) := by rw [atI_mapF, atI_nat, j2]; rfl
            refine ⟨r4, w9, ?_, pf r4 m4, q9.mono (by omega)⟩
            have el : listO [llD r4] = some (.new (r4.map .int)) := rfl
            have lm : ((f.map llD).length : Int) = (f.length : Int) := by rw [List.length_map]
            obtain ⟨M, hM⟩ : ∃ M, M = f.map llD := ⟨_, rfl⟩
            rw [← hM] at aj nf lm ⊢
            subst c3
            simp -implicitDefEqProofs [nf, e8, lm, e9, aj, el]
          · have c3' : ((x : Int) = 0) = False := eq_false (by omega)
            exact ⟨r3, w8, by simp -implicitDefEqProofs [nf, e8, c3], pr3, q8.mono (by omega)⟩
      have lt : ltS f.length := size_lt (by omega)
      have ap : ∀ r : List Int, esc (.slot 6) ⟨[.raw (.ref pa), .val (.list ((N).map .int)), .val (.list ((T).map prT)), .val (.int ((way : Nat) : Int)), .own (f.map llD), .val (.int (0 + (k : Int))), .own (r.map .int), s7'], w8⟩ = some (.val (llD r), ⟨[.raw (.ref pa), .val (.list ((N).map .int)), .val (.list ((T).map prT)), .val (.int ((way : Nat) : Int)), .own (f.map llD), .val (.int (0 + (k : Int))), .val (llD r), s7'], w8⟩) := fun r => rfl
      have em : f.map llD ++ [PyData.list (r4.map .int)] = (f ++ [r4]).map llD := by rw [List.map_append]; rfl
      refine ⟨⟨[.raw (.ref pa), .val (.list ((N).map .int)), .val (.list ((T).map prT)), .val (.int ((way : Nat) : Int)), .own ((f ++ [r4]).map llD), .val (.int (0 + (k : Int))), .val (llD r4), s7'], w8⟩, ?_, f ++ [r4], w8, _, _, _, ⟨by simp [lf], fun r hr => ?_⟩, q8, rfl⟩
      · simp only [x_bod, x_bName, List.length_cons, List.length_nil]
        rw [if_pos (by omega)]
        show b_law_folk_v14_1 ⟨[.raw (.ref pa), .val (.list ((N).map .int)), .val (.list ((T).map prT)), .val (.int ((way : Nat) : Int)), .own (f.map llD), .val (.int (0 + (k : Int))), s6, s7], w4⟩ = _
        have e5' : (fSet 6 (fUser F_law_falling_v3 (fCons (fVar 0) (fCons (fVar 1) (fCons (fVar 2) fNil))))) ⟨[.raw (.ref pa), .val (.list ((N).map .int)), .val (.list ((T).map prT)), .val (.int ((way : Nat) : Int)), .own (f.map llD), .val (.int (0 + (k : Int))), s6, s7], w4⟩ = .next ⟨[.raw (.ref pa), .val (.list ((N).map .int)), .val (.list ((T).map prT)), .val (.int ((way : Nat) : Int)), .own (f.map llD), .val (.int (0 + (k : Int))), .own (r.map .int), s7], w5⟩ := by simp -implicitDefEqProofs [e5]
        unfold b_law_folk_v14_1
        simp only [fseq, e5', e6, e7, e8, at_next]
        simp -implicitDefEqProofs [lt, em, -List.map_append, llD]
      · rcases List.mem_append.mp hr with hr | hr
        · exact pf r hr
        · rw [List.mem_singleton] at hr; rw [hr]; exact pr4)
  have hB : inB ((1 : Int) + n) := inB_of (by omega) (by omega)
  have et : ((1 : Int) + (n : Int)).toNat = 1 + n := by omega
  rw [List.length_range] at lf qf
  have e' : loopF (bName 5) b_law_folk_v14_1 (rangeD 0 (1 + n)) ⟨[.raw (.ref pa), .val (.list ((N).map .int)), .val (.list ((T).map prT)), .val (.int ((way : Nat) : Int)), .own [], .no, .no, .no], w3⟩ = _ := e
  have s3 : leS 3 := size_le (by omega)
  have s0 : leS 0 := size_le (by omega)
  refine ⟨f, w', ?_, by omega, by omega, pf, qf.mono (by omega)⟩
  unfold F_law_folk_v14 p_law_folk_v14
  simp only [x_runF]
  simp -implicitDefEqProofs [e1, e2, eb, e3, hB, et, e', s3, s0]

end DL

noncomputable section
namespace DL
open PySem L2
def e_law_copied_1 (rec : List R → Pw → FRes) : M R := fUser rec (fCons (fVar 1) fNil)
abbrev l_law_copied_1 (rec : List R → Pw → FRes) : M R := fLc (fLstI (fVar 0)) (bName 1) fYes ((e_law_copied_1 rec)) [1]
def e_law_copied_2 (rec : List R → Pw → FRes) : M R := fUser rec (fCons (fVar 1) fNil)
abbrev l_law_copied_2 (rec : List R → Pw → FRes) : M R := fLc (fLstI (fVar 0)) (bName 1) fYes ((e_law_copied_2 rec)) [1]
def p_law_copied (rec : List R → Pw → FRes) : DSt → Flow := fseq (fIfS (fB (fIsi "tuple" (fVar 0))) (fRet (fCall tupleO (pCons (fLc (fLstI (fVar 0)) (bName 1) fYes ((e_law_copied_1 rec)) [1]) fNil))) fnext) (fseq (fIfS (fB (fIsi "list" (fVar 0))) (fRet (fLc (fLstI (fVar 0)) (bName 1) fYes ((e_law_copied_2 rec)) [1])) fnext) (fRet (fVar 0)))
def F_law_copied : Nat → List R → Pw → FRes
  | 0 => runF 2 1 fnever
  | m + 1 => runF 2 1 (p_law_copied (F_law_copied m))
/-! copies -/
@[simp] theorem atI_litC {α : Type} {xs : List α} {k : Nat} : atI xs (no_index (OfNat.ofNat k)) = xs[k]? := by
  show atI xs ((k : Nat) : Int) = _
  exact atI_nat
def cpC : PyData → R
  | .list ds => .new ds
  | d => .val d
theorem esc_cpC {d : PyData} {s : DSt} : esc (cpC d) s = some (.val d, s) := by cases d <;> rfl
theorem copC_ok : ∀ {n m : Nat} {d : PyData} {w : Pw}, bdd n d → n < m → F_law_copied m [.val d] w = .ok (cpC d) w
  | n, 0, _, _, _, h => by omega
  | n, m + 1, d, w, b, h => by
    have ih : ∀ {k : Nat} {x : PyData}, bdd k x → k < m → ∀ w, F_law_copied m [.val x] w = .ok (cpC x) w := fun b h w => copC_ok b h
    unfold F_law_copied p_law_copied
    simp only [x_runF]
    cases d with
    | list ds =>
      cases n with
      | zero => unfold bdd at b; exact b.elim
      | succ n =>
        rw [bdd_list] at b
        have e : l_law_copied_2 (F_law_copied m) ⟨[.val (.list ds), .no], w⟩ = .ok (.new (ds.map id)) ⟨[.val (.list ds), .no], w⟩ := by
          refine lc_all (fun x : PyData => ⟨[.val (.list ds), .val x], w⟩) _ (f := id) (l := ds) (by simp -implicitDefEqProofs) (by omega) rfl (fun a _ => by rfl) (fun a _ => by rfl) (fun x hx => ?_)
          unfold e_law_copied_2
          simp -implicitDefEqProofs [ih (b.2 x hx) (by omega), esc_cpC]
        rw [List.map_id] at e
        simp -implicitDefEqProofs [e, cpC]
    | tuple ds =>
      cases n with
      | zero => unfold bdd at b; exact b.elim
      | succ n =>
        rw [bdd_tuple] at b
        have e : l_law_copied_1 (F_law_copied m) ⟨[.val (.tuple ds), .no], w⟩ = .ok (.new (ds.map id)) ⟨[.val (.tuple ds), .no], w⟩ := by
          refine lc_all (fun x : PyData => ⟨[.val (.tuple ds), .val x], w⟩) _ (f := id) (l := ds) (by simp -implicitDefEqProofs) (by omega) rfl (fun a _ => by rfl) (fun a _ => by rfl) (fun x hx => ?_)
          unfold e_law_copied_1
          simp -implicitDefEqProofs [ih (b.2 x hx) (by omega), esc_cpC]
        rw [List.map_id] at e
        simp -implicitDefEqProofs [e, cpC]
    | dict kvs => cases n <;> (unfold bdd at b; exact b.elim)
    | _ => simp -implicitDefEqProofs [cpC]
def tgC (p : Str × Bool) : PyData := .tuple [.str p.1, .bool p.2]
theorem bdd_intsC {n : Nat} {l : List Int} (h : l.length ≤ 1000) : bdd (n + 1) (.list (l.map .int)) := bdd_list.mpr ⟨by simpa using h, fun d hd => by obtain ⟨z, _, rfl⟩ := List.mem_map.mp hd; simp⟩
theorem bdd_folkC {n : Nat} {f : List (List Int)} (h : f.length ≤ 1000) (h2 : ∀ r ∈ f, r.length ≤ 1000) : bdd (n + 2) (.list (f.map llD)) := bdd_list.mpr ⟨by simpa using h, fun d hd => by obtain ⟨z, hz, rfl⟩ := List.mem_map.mp hd; exact bdd_intsC (h2 z hz)⟩

end DL

noncomputable section
namespace DL
open PySem L2
def p_names_by : DSt → Flow := fseq (fDrop (fUser F_must_be_folk (fCons (fVar 0) fNil))) (fRet (fCall sortedO (pCons (fOp (lift2 ixO) (fVar 0) (fC (.int 0))) fNil)))
def F_names_by : List R → Pw → FRes := runF 1 1 p_names_by
def t_allowed_1 : M Bool := fB (fOp (lift2 inO) (fVar 5) (fVar 1))
def e_allowed_2 : M R := fVar 5
abbrev l_allowed_2 : M R := fLc (fLstI (fVar 0)) (bName 5) (t_allowed_1) (e_allowed_2) [5]
def p_allowed : DSt → Flow := fseq (fSet 3 (fLc (fLstI (fVar 0)) (bName 5) (t_allowed_1) (e_allowed_2) [5])) (fseq (fSet 4 (fIndex (fVar 3) (fVar 2))) (fseq (fIfS (fB (fOp (lift2 eqO) (fVar 4) (fC (.int 0)))) (fRet (fSlice (fVar 3) (fPart (fC (.int 1))) (fPart (fC (.int 2))))) fnext) (fRet (fSlice (fVar 3) fNoPart (fPart (fVar 4))))))
def F_allowed : List R → Pw → FRes := runF 6 3 p_allowed
def t_hangs_at_1 : M Bool := fB (fOp (lift2 neO) (fVar 6) (fVar 2))
def e_hangs_at_2 : M R := fVar 6
abbrev l_hangs_at_2 : M R := fLc (fLstI (fVar 1)) (bName 6) (t_hangs_at_1) (e_hangs_at_2) [6]
def t_hangs_at_3 : M Bool := fB (fOp (lift2 inO) (fVar 6) (fVar 5))
def e_hangs_at_4 : M R := fVar 6
abbrev l_hangs_at_4 : M R := fLc (fLstI (fVar 3)) (bName 6) (t_hangs_at_3) (e_hangs_at_4) [6]
def b_hangs_at_5 : DSt → Flow := fseq (fSet 5 (fUser F_allowed (fCons (fVar 4) (fCons (fVar 1) (fCons (fVar 2) fNil))))) (fSet 3 (fLc (fLstI (fVar 3)) (bName 6) (t_hangs_at_3) (e_hangs_at_4) [6]))
abbrev o_hangs_at_5 : List PyData → DSt → Flow := loopF (bName 4) b_hangs_at_5
def p_hangs_at : DSt → Flow := fseq (fSet 3 (fLc (fLstI (fVar 1)) (bName 6) (t_hangs_at_1) (e_hangs_at_2) [6])) (fseq (fFor (fLstI (fVar 0)) (bName 4) b_hangs_at_5) (fRet (fVar 3)))
def F_hangs_at : List R → Pw → FRes := runF 7 3 p_hangs_at
def t_law_hangs_1 : M Bool := fB (fOp (lift2 neO) (fVar 8) (fVar 2))
def e_law_hangs_2 : M R := fVar 8
abbrev l_law_hangs_2 : M R := fLc (fLstI (fVar 1)) (bName 8) (t_law_hangs_1) (e_law_hangs_2) [8]
def t_law_hangs_3 : M Bool := fB (fOp (lift2 inO) (fVar 9) (fVar 1))
def e_law_hangs_4 : M R := fVar 9
abbrev l_law_hangs_4 : M R := fLc (fLstI (fVar 4)) (bName 9) (t_law_hangs_3) (e_law_hangs_4) [9]
def t_law_hangs_5 : M Bool := fB (fOp (lift2 inO) (fVar 8) (fVar 7))
def e_law_hangs_6 : M R := fVar 8
abbrev l_law_hangs_6 : M R := fLc (fLstI (fVar 3)) (bName 8) (t_law_hangs_5) (e_law_hangs_6) [8]
def b_law_hangs_7 : DSt → Flow := fseq (fSet 5 (fLc (fLstI (fVar 4)) (bName 9) (t_law_hangs_3) (e_law_hangs_4) [9])) (fseq (fSet 6 (fIndex (fVar 5) (fVar 2))) (fseq (fSet 7 (fOp (lift2 addO) (fSlice (fVar 5) fNoPart (fPart (fVar 6))) (fOp (lift2 mulO) (fSlice (fVar 5) (fPart (fC (.int 1))) (fPart (fC (.int 2)))) (fCall intO (pCons (fOp (lift2 eqO) (fVar 6) (fC (.int 0))) fNil))))) (fSet 3 (fLc (fLstI (fVar 3)) (bName 8) (t_law_hangs_5) (e_law_hangs_6) [8]))))
abbrev o_law_hangs_7 : List PyData → DSt → Flow := loopF (bName 4) b_law_hangs_7
def p_law_hangs : DSt → Flow := fseq (fSet 3 (fLc (fLstI (fVar 1)) (bName 8) (t_law_hangs_1) (e_law_hangs_2) [8])) (fseq (fFor (fLstI (fVar 0)) (bName 4) b_law_hangs_7) (fRet (fVar 3)))
def F_law_hangs : List R → Pw → FRes := runF 10 3 p_law_hangs
/-! where names can hang -/
theorem must_folk_no {n : Nat} {d : PyData} {w : Pw} (hb : bdd n d) (h : folkB d = false) : F_must_be_folk [.val d] w = .err ⟨"NoFolk", none⟩ w := by
  have e := is_folk_any (w := w) hb
  rw [h] at e
  unfold F_must_be_folk p_must_be_folk
  simp only [x_runF]
  simp -implicitDefEqProofs [e]
/-- a folk of some rising names -/
structure FolkN (N : List Int) (f : List (List Int)) : Prop where
  l0 : 0 < f.length
  l20 : f.length ≤ 20
  p : ∀ r ∈ f, r.Perm N
  rN : Rank N
  s : N.Pairwise (· < ·)
theorem FolkN.folk {N : List Int} {f : List (List Int)} (h : FolkN N f) : Folk f := ⟨h.l0, h.l20, fun r hr => ⟨h.rN.perm (h.p r hr), fun q hq => (h.p q hq).trans (h.p r hr).symm⟩⟩
theorem FolkN.b {N : List Int} {f : List (List Int)} (h : FolkN N f) : bdd 3 (.list (f.map llD)) := bdd_up (n := 2) (by omega) (bdd_folkC (by have := h.l20; omega) fun r hr => by rw [(h.p r hr).length_eq]; have := h.rN.2.2.2; omega)
theorem sortI_rise {N : List Int} (h : N.Pairwise (· < ·)) : sortI N = N := (sortI_eq (.refl _) (h.imp Int.le_of_lt)).symm
theorem sortI_of_perm {N r : List Int} (h : N.Pairwise (· < ·)) (hp : r.Perm N) : sortI r = N := by
  have := sortI_eq (ns := r) (ms := N) hp.symm (h.imp Int.le_of_lt)
  exact this.symm
theorem names_by_ok {N : List Int} {f : List (List Int)} {w : Pw} (h : FolkN N f) : F_names_by [.val (.list (f.map llD))] w = .ok (.new (N.map .int)) w := by
  have e := must_folk_ok (w := w) h.folk
  obtain ⟨a, g, rfl⟩ : ∃ a g, f = a :: g := by
    cases f with
    | nil => exact absurd h.l0 (by simp)
    | cons a g => exact ⟨a, g, rfl⟩
  have es : sortI a = N := sortI_of_perm h.s (h.p a List.mem_cons_self)
  have a0 : ((a :: g).map llD)[0]? = some (.list (a.map .int)) := rfl
  obtain ⟨F, hF⟩ : ∃ F, F = (a :: g).map llD := ⟨_, rfl⟩
  rw [← hF] at e a0 ⊢
  unfold F_names_by p_names_by
  simp only [x_runF]
  simp -implicitDefEqProofs [e, a0, es]
/-- the names at which a name can hang by one ranking -/
def alw (r left : List Int) (x : Int) : List Int := if (cutL r left).idxOf x = 0 then ((cutL r left).drop 1).take 1 else (cutL r left).take ((cutL r left).idxOf x)
def hangL (f : List (List Int)) (left : List Int) (x : Int) : List Int := f.foldl (fun found r => found.filter fun y => decide (y ∈ alw r left x)) (left.filter fun y => decide (y ≠ x))
theorem cut_12 {xs : List Int} : cutI xs (some 1) (some 2) = (xs.drop 1).take 1 := by
  have := cut_mid (xs := xs) (k := 1) (j := 2)
  rw [List.drop_take] at this
  exact this
theorem allowed_ok {r left : List Int} {x : Int} {w : Pw} (hl : r.length ≤ 1000) (hx : x ∈ r) (hx2 : x ∈ left) : F_allowed [.val (.list ((r).map .int)), .val (.list ((left).map .int)), .val (.int (x))] w = .ok (.new ((alw r left x).map .int)) w := by
  have e : l_allowed_2 ⟨[.val (.list ((r).map .int)), .val (.list ((left).map .int)), .val (.int (x)), .no, .no, .no], w⟩ = .ok (.new ((cutL r left).map .int)) ⟨[.val (.list ((r).map .int)), .val (.list ((left).map .int)), .val (.int (x)), .no, .no, .no], w⟩ := by
    refine lc_gen (fun y : Int => ⟨[.val (.list ((r).map .int)), .val (.list ((left).map .int)), .val (.int (x)), .no, .no, .val (.int (y))], w⟩) _ (fun y => .int y) (f := .int) (l := r) (by simp -implicitDefEqProofs) (by omega) rfl (fun a _ => by rfl) (fun a _ => by rfl) (fun y _ => ?_) (fun y _ _ => ?_)
    · unfold t_allowed_1
      simp -implicitDefEqProofs
    · unfold e_allowed_2
      simp -implicitDefEqProofs
  have mx : x ∈ cutL r left := mem_cut.mpr ⟨hx, hx2⟩
  have ei := idxO_mem mx
  unfold alw
  obtain ⟨C, hC⟩ : ∃ C, C = cutL r left := ⟨_, rfl⟩
  rw [← hC] at e ei ⊢
  obtain ⟨k, hk⟩ : ∃ k, k = C.idxOf x := ⟨_, rfl⟩
  rw [← hk] at ei ⊢
  have c1 : cutD (C.map PyData.int) (some 1) (some 2) = ((C.drop 1).take 1).map .int := by rw [cutD_map, cut_12]
  have c2 : cutD (C.map PyData.int) none (some (k : Int)) = (C.take k).map .int := by rw [cutD_map, cut_to]
  obtain ⟨A, hA⟩ : ∃ A, A = (C.drop 1).take 1 := ⟨_, rfl⟩
  obtain ⟨B, hB⟩ : ∃ B, B = C.take k := ⟨_, rfl⟩
  rw [← hA] at c1 ⊢
  rw [← hB] at c2 ⊢
  unfold F_allowed p_allowed
  simp only [x_runF]
  by_cases q : k = 0
  · simp -implicitDefEqProofs [e, ei, c1, c2, q]
  · simp -implicitDefEqProofs [e, ei, c1, c2, q]
theorem hang_fold {f : List (List Int)} {left : List Int} {x : Int} {w : Pw} {s4 s5 : Sl} (hl : left.length ≤ 1000) (hf : ∀ r ∈ f, r.length ≤ 1000 ∧ ∀ y ∈ left, y ∈ r) (hx : x ∈ left) (D : PyData) : ∃ t4 t5, loopF (bName 4) b_hangs_at_5 (f.map llD) ⟨[.val D, .val (.list ((left).map .int)), .val (.int (x)), .own ((left.filter fun y => decide (y ≠ x)).map .int), s4, s5, .no], w⟩ = .next ⟨[.val D, .val (.list ((left).map .int)), .val (.int (x)), .own ((hangL f left x).map .int), t4, t5, .no], w⟩ := by
  obtain ⟨s', e, t4, t5, h, rfl⟩ := loopN (b := bName 4) (p := b_hangs_at_5) (f := llD) (l := f) (s := ⟨[.val D, .val (.list ((left).map .int)), .val (.int (x)), .own ((left.filter fun y => decide (y ≠ x)).map .int), s4, s5, .no], w⟩)
    (fun i s => ∃ t4 t5, (hangL (f.take i) left x).length ≤ 1000 ∧ s = ⟨[.val D, .val (.list ((left).map .int)), .val (.int (x)), .own ((hangL (f.take i) left x).map .int), t4, t5, .no], w⟩) ⟨_, _, by unfold hangL; rw [List.take_zero, List.foldl_nil]; exact Nat.le_trans (List.length_filter_le _ _) hl, rfl⟩ (by
      rintro i r s hi hr ⟨t4, t5, h, rfl⟩
      obtain ⟨lr, mr⟩ := hf r hr
      have ea := allowed_ok (w := w) lr (mr x hx) hx
      have es : hangL (f.take (i + 1)) left x = (hangL (f.take i) left x).filter fun y => decide (y ∈ alw r left x) := by
        unfold hangL
        rw [take_succ hi, List.foldl_append]
        rfl
      rw [es]
      obtain ⟨H, hH⟩ : ∃ H, H = hangL (f.take i) left x := ⟨_, rfl⟩
      obtain ⟨A, hA⟩ : ∃ A, A = alw r left x := ⟨_, rfl⟩
      rw [← hH] at h ⊢
      rw [← hA] at ea ⊢
      have e : ∀ t4, l_hangs_at_4 ⟨[.val D, .val (.list ((left).map .int)), .val (.int (x)), .own (H.map .int), t4, .own (A.map .int), .no], w⟩ = .ok (.new ((H.filter fun y => decide (y ∈ A)).map .int)) ⟨[.val D, .val (.list ((left).map .int)), .val (.int (x)), .val (.list (H.map .int)), t4, .own (A.map .int), .no], w⟩ := by
        intro t4
        refine lc_gen (fun y : Int => ⟨[.val D, .val (.list ((left).map .int)), .val (.int (x)), .val (.list (H.map .int)), t4, .own (A.map .int), .val (.int (y))], w⟩) _ (fun y => .int y) (f := .int) (l := H) (by simp -implicitDefEqProofs) (by omega) (by simp [noOwn]) (fun a _ => by rfl) (fun a _ => by rfl) (fun y _ => ?_) (fun y _ _ => ?_)
        · unfold t_hangs_at_3
          simp -implicitDefEqProofs
        · unfold e_hangs_at_4
          simp -implicitDefEqProofs
      unfold l_hangs_at_4 at e
      unfold b_hangs_at_5
      simp -implicitDefEqProofs [llD, ea, e]
      exact Nat.le_trans (List.length_filter_le _ _) h)
  rw [List.take_length] at e
  exact ⟨t4, t5, e⟩
theorem hangs_at_ok {f : List (List Int)} {left : List Int} {x : Int} {w : Pw} (hl : left.length ≤ 1000) (hf : ∀ r ∈ f, r.length ≤ 1000 ∧ ∀ y ∈ left, y ∈ r) (hx : x ∈ left) : F_hangs_at [.val (.list (f.map llD)), .val (.list ((left).map .int)), .val (.int (x))] w = .ok (.new ((hangL f left x).map .int)) w := by
  obtain ⟨D, hD⟩ : ∃ D, D = f.map llD := ⟨_, rfl⟩
  obtain ⟨t4, t5, e⟩ := hang_fold (w := w) (s4 := .no) (s5 := .no) hl hf hx (.list D)
  have e1 : l_hangs_at_2 ⟨[.val (.list D), .val (.list ((left).map .int)), .val (.int (x)), .no, .no, .no, .no], w⟩ = .ok (.new ((left.filter fun y => decide (y ≠ x)).map .int)) ⟨[.val (.list D), .val (.list ((left).map .int)), .val (.int (x)), .no, .no, .no, .no], w⟩ := by
    refine lc_gen (fun y : Int => ⟨[.val (.list D), .val (.list ((left).map .int)), .val (.int (x)), .no, .no, .no, .val (.int (y))], w⟩) _ (fun y => .int y) (f := .int) (l := left) (by simp -implicitDefEqProofs) (by omega) rfl (fun a _ => by rfl) (fun a _ => by rfl) (fun y _ => ?_) (fun y _ _ => ?_)
    · unfold t_hangs_at_1
      simp -implicitDefEqProofs
    · unfold e_hangs_at_2
      simp -implicitDefEqProofs
  obtain ⟨L0, hL0⟩ : ∃ L0, L0 = left.filter fun y => decide (y ≠ x) := ⟨_, rfl⟩
  rw [← hL0] at e e1
  rw [← hD] at e ⊢
  unfold F_hangs_at p_hangs_at
  simp only [x_runF]
  simp -implicitDefEqProofs [e1, e]
theorem law_hangs_ok {f : List (List Int)} {left : List Int} {x : Int} {w : Pw} (hl : left.length ≤ 1000) (hf : ∀ r ∈ f, r.length ≤ 1000 ∧ ∀ y ∈ left, y ∈ r) (hx : x ∈ left) : F_law_hangs [.val (.list (f.map llD)), .val (.list ((left).map .int)), .val (.int (x))] w = .ok (.new ((hangL f left x).map .int)) w := by
  obtain ⟨D, hD⟩ : ∃ D, D = PyData.list (f.map llD) := ⟨_, rfl⟩
  have e1 : l_law_hangs_2 ⟨[.val D, .val (.list ((left).map .int)), .val (.int (x)), .no, .no, .no, .no, .no, .no, .no], w⟩ = .ok (.new ((left.filter fun y => decide (y ≠ x)).map .int)) ⟨[.val D, .val (.list ((left).map .int)), .val (.int (x)), .no, .no, .no, .no, .no, .no, .no], w⟩ := by
    refine lc_gen (fun y : Int => ⟨[.val D, .val (.list ((left).map .int)), .val (.int (x)), .no, .no, .no, .no, .no, .val (.int (y)), .no], w⟩) _ (fun y => .int y) (f := .int) (l := left) (by simp -implicitDefEqProofs) (by omega) rfl (fun a _ => by rfl) (fun a _ => by rfl) (fun y _ => ?_) (fun y _ _ => ?_)
    · unfold t_law_hangs_1
      simp -implicitDefEqProofs
    · unfold e_law_hangs_2
      simp -implicitDefEqProofs
  obtain ⟨s', e, t4, t5, t6, t7, h, rfl⟩ := loopN (b := bName 4) (p := b_law_hangs_7) (f := llD) (l := f) (s := ⟨[.val D, .val (.list ((left).map .int)), .val (.int (x)), .own ((left.filter fun y => decide (y ≠ x)).map .int), .no, .no, .no, .no, .no, .no], w⟩)
    (fun i s => ∃ t4 t5 t6 t7, (hangL (f.take i) left x).length ≤ 1000 ∧ s = ⟨[.val D, .val (.list ((left).map .int)), .val (.int (x)), .own ((hangL (f.take i) left x).map .int), t4, t5, t6, t7, .no, .no], w⟩) ⟨_, _, _, _, by unfold hangL; rw [List.take_zero, List.foldl_nil]; exact Nat.le_trans (List.length_filter_le _ _) hl, rfl⟩ (by
      rintro i r s hi hr ⟨t4, t5, t6, t7, h, rfl⟩
      obtain ⟨lr, mr⟩ := hf r hr
      have es : hangL (f.take (i + 1)) left x = (hangL (f.take i) left x).filter fun y => decide (y ∈ alw r left x) := by
        unfold hangL
        rw [take_succ hi, List.foldl_append]
        rfl
      rw [es]
      obtain ⟨H, hH⟩ : ∃ H, H = hangL (f.take i) left x := ⟨_, rfl⟩
      rw [← hH] at h ⊢
      have e0 : ∀ t5 t6 t7, l_law_hangs_4 ⟨[.val D, .val (.list ((left).map .int)), .val (.int (x)), .own (H.map .int), .val (.list ((r).map .int)), t5, t6, t7, .no, .no], w⟩ = .ok (.new ((cutL r left).map .int)) ⟨[.val D, .val (.list ((left).map .int)), .val (.int (x)), .own (H.map .int), .val (.list ((r).map .int)), t5, t6, t7, .no, .no], w⟩ := by
        intro t5 t6 t7
        refine lc_gen (fun y : Int => ⟨[.val D, .val (.list ((left).map .int)), .val (.int (x)), .own (H.map .int), .val (.list ((r).map .int)), t5, t6, t7, .no, .val (.int (y))], w⟩) _ (fun y => .int y) (f := .int) (l := r) (by simp -implicitDefEqProofs) (by omega) (by simp [noOwn]) (fun a _ => by rfl) (fun a _ => by rfl) (fun y _ => ?_) (fun y _ _ => ?_)
        · unfold t_law_hangs_3
          simp -implicitDefEqProofs
        · unfold e_law_hangs_4
          simp -implicitDefEqProofs
      have lC : (cutL r left).length ≤ 1000 := Nat.le_trans (List.length_filter_le _ _) lr
      have mx : x ∈ cutL r left := mem_cut.mpr ⟨mr x hx, hx⟩
      have ei := idxO_mem mx
      unfold alw
      obtain ⟨C, hC⟩ : ∃ C, C = cutL r left := ⟨_, rfl⟩
      rw [← hC] at e0 ei lC ⊢
      obtain ⟨k, hk⟩ : ∃ k, k = C.idxOf x := ⟨_, rfl⟩
      rw [← hk] at ei ⊢
      have c1 : cutD (C.map PyData.int) (some 1) (some 2) = ((C.drop 1).take 1).map .int := by rw [cutD_map, cut_12]
      have c2 : cutD (C.map PyData.int) none (some (k : Int)) = (C.take k).map .int := by rw [cutD_map, cut_to]
      obtain ⟨A, hA⟩ : ∃ A : List Int, A = if k = 0 then (C.drop 1).take 1 else C.take k := ⟨_, rfl⟩
      have lA : A.length ≤ 1000 := by rw [hA]; split <;> simp <;> omega
      have e : ∀ t4 t5 t6, l_law_hangs_6 ⟨[.val D, .val (.list ((left).map .int)), .val (.int (x)), .own (H.map .int), t4, t5, t6, .own (A.map .int), .no, .no], w⟩ = .ok (.new ((H.filter fun y => decide (y ∈ A)).map .int)) ⟨[.val D, .val (.list ((left).map .int)), .val (.int (x)), .val (.list (H.map .int)), t4, t5, t6, .own (A.map .int), .no, .no], w⟩ := by
        intro t4 t5 t6
        refine lc_gen (fun y : Int => ⟨[.val D, .val (.list ((left).map .int)), .val (.int (x)), .val (.list (H.map .int)), t4, t5, t6, .own (A.map .int), .val (.int (y)), .no], w⟩) _ (fun y => .int y) (f := .int) (l := H) (by simp -implicitDefEqProofs) (by omega) (by simp [noOwn]) (fun a _ => by rfl) (fun a _ => by rfl) (fun y _ => ?_) (fun y _ _ => ?_)
        · unfold t_law_hangs_5
          simp -implicitDefEqProofs
        · unfold e_law_hangs_6
          simp -implicitDefEqProofs
      unfold l_law_hangs_4 at e0
      unfold l_law_hangs_6 at e
      have B1 : ((C.drop 1).take 1).length ≤ 1 := by simp; omega
      obtain ⟨B, hB⟩ : ∃ B, B = (C.drop 1).take 1 := ⟨_, rfl⟩
      obtain ⟨E, hE⟩ : ∃ E, E = C.take k := ⟨_, rfl⟩
      have lE : E.length ≤ 1000 := by rw [hE, List.length_take]; omega
      rw [← hB] at c1 hA B1 ⊢
      rw [← hE] at c2 hA ⊢
      have u0 : leS B.length := size_le (by omega)
      have u1 : leS (E.length + B.length) := size_le (by omega)
      have u2 : leS E.length := size_le (by omega)
      have u3 : leS 0 := size_le (by omega)
      unfold b_law_hangs_7
      by_cases q : k = 0
      · have e2 : E = [] := by rw [hE, q, List.take_zero]
        subst e2
        have q2 : A = B := by rw [hA, if_pos q]
        subst q2
        have c3 : cutD (C.map PyData.int) none (some 0) = [] := by
          rw [cutD_map]
          exact congrArg _ (cut_to (xs := C) (k := 0))
        simp -implicitDefEqProofs [llD, e0, ei, c1, c3, q, u0, e]
        exact Nat.le_trans (List.length_filter_le _ _) h
      · have q2 : A = E := by rw [hA, if_neg q]
        subst q2
        simp -implicitDefEqProofs [llD, e0, ei, c1, c2, q, u2, u3, e]
        exact Nat.le_trans (List.length_filter_le _ _) h)
  rw [List.take_length] at e
  obtain ⟨L0, hL0⟩ : ∃ L0, L0 = left.filter fun y => decide (y ≠ x) := ⟨_, rfl⟩
  rw [← hL0] at e e1
  have hD' : ∃ F, D = .list F ∧ F = f.map llD := ⟨_, hD, rfl⟩
  obtain ⟨F, rfl, hF⟩ := hD'
  rw [← hF] at e ⊢
  unfold F_law_hangs p_law_hangs
  simp only [x_runF]
  simp -implicitDefEqProofs [e1, e]
theorem cut_initC {K : List Int} {z : Int} : cutI (K ++ [z]) none (some (-1)) = K := by
  unfold cutI HT.sIx
  simp
  have : (-1 + ((K.length : Int) + 1)).toNat = K.length := by omega
  rw [this]
  simp
theorem max_ex : ∀ {N : List Int}, 0 < N.length → ∃ M ∈ N, ∀ y ∈ N, y ≤ M
  | [x], _ => ⟨x, by simp, by simp⟩
  | x :: y :: N, _ => by
    obtain ⟨M, h1, h2⟩ := max_ex (N := y :: N) (by simp)
    by_cases q : x ≤ M
    · refine ⟨M, List.mem_cons_of_mem _ h1, fun z hz => ?_⟩
      rcases List.mem_cons.mp hz with rfl | hz
      · exact q
      · exact h2 z hz
    · refine ⟨x, List.mem_cons_self, fun z hz => ?_⟩
      rcases List.mem_cons.mp hz with rfl | hz
      · omega
      · have := h2 z hz; omega
theorem gaps_pos {N : List Int} (h0 : 0 < N.length) : 0 < (N.filter fun z => decide (z + 1 ∉ N)).length := by
  obtain ⟨M, mx2, mx1⟩ := max_ex h0
  refine List.length_pos_of_mem (a := M) ?_
  rw [List.mem_filter]
  exact ⟨mx2, by simp; intro z; have := mx1 _ z; omega⟩
theorem folkB_no {d : PyData} (h : ∀ f : List (List Int), Folk f → d ≠ .list (f.map llD)) : folkB d = false := by
  rw [Bool.eq_false_iff]
  intro z
  obtain ⟨f, rfl, hf⟩ := folkB_iff.mp z
  exact h f hf rfl
theorem oneLL_of {x : PyData} {g : List (List Int)} (z : [x] = g.map llD) : ∃ u, g = [u] ∧ x = llD u := by
  cases g with
  | nil => cases z
  | cons u g =>
    cases g with
    | nil => rw [List.map_cons, List.map_nil, List.cons.injEq] at z; exact ⟨u, rfl, z.1⟩
    | cons v g => have := congrArg List.length z; simp at this
theorem twoLL_of {x y : PyData} {g : List (List Int)} (z : [x, y] = g.map llD) : ∃ u v, g = [u, v] ∧ x = llD u ∧ y = llD v := by
  cases g with
  | nil => cases z
  | cons u g =>
    rw [List.map_cons, List.cons.injEq] at z
    obtain ⟨v, rfl, e⟩ := oneLL_of z.2
    exact ⟨u, v, rfl, z.1, e⟩
theorem rep_len {n : Nat} {D : List PyData} : (List.replicate n D).flatten.length = n * D.length := by simp
theorem rep_mem {n : Nat} {D : List PyData} {d : PyData} (h : d ∈ (List.replicate n D).flatten) : d ∈ D := by
  obtain ⟨l, hl, hd⟩ := List.mem_flatten.mp h
  rw [List.eq_of_mem_replicate hl] at hd
  exact hd
theorem hangL_len {f : List (List Int)} {left : List Int} {x : Int} {n : Nat} (h : left.length ≤ n) : (hangL f left x).length ≤ n := by
  unfold hangL
  have go : ∀ (f : List (List Int)) (l : List Int), l.length ≤ n → (f.foldl (fun found r => found.filter fun y => decide (y ∈ alw r left x)) l).length ≤ n := by
    intro f
    induction f with
    | nil => exact fun l h => h
    | cons r f ih => exact fun l h => ih _ (Nat.le_trans (List.length_filter_le _ _) h)
  exact go f _ (Nat.le_trans (List.length_filter_le _ _) h)

end DL

noncomputable section
namespace DL
open PySem L2
def p_must_be_tree_v2 : DSt → Flow := fIfS (fNot (fB (fUser F_is_right_tree_v2 (fCons (fVar 0) (fCons (fVar 1) fNil))))) (fRaise "NoTree") fnext
def F_must_be_tree_v2 : List R → Pw → FRes := runF 2 2 p_must_be_tree_v2
def b_apart_at_1 : DSt → Flow := fIfS (fNot (fB (fUser F_hang_together (fCons (fVar 0) (fCons (fSlice (fVar 1) fNoPart (fPart (fVar 2))) fNil))))) (fRet (fVar 2)) fnext
abbrev o_apart_at_1 : List PyData → DSt → Flow := loopF (bName 2) b_apart_at_1
def p_apart_at : DSt → Flow := fseq (fFor (fRng2 (pCons (fC (.int 1)) (pCons (fOp (lift2 addO) (fCall lenO (pCons (fVar 1) fNil)) (fC (.int 1))) fNil))) (bName 2) b_apart_at_1) (fRet (fC .none))
def F_apart_at : List R → Pw → FRes := runF 3 2 p_apart_at
def p_first_apart_v2 : DSt → Flow := fseq (fDrop (fUser F_must_be_ranking (fCons (fVar 1) fNil))) (fseq (fDrop (fUser F_must_be_tree_v2 (fCons (fCall sortedO (pCons (fVar 1) fNil)) (fCons (fVar 0) fNil)))) (fRet (fUser F_apart_at (fCons (fVar 0) (fCons (fVar 1) fNil)))))
def F_first_apart_v2 : List R → Pw → FRes := runF 2 2 p_first_apart_v2
def b_law_apart_1 : DSt → Flow := fIfS (fNot (fB (fUser F_law_together (fCons (fVar 0) (fCons (fSlice (fVar 1) fNoPart (fPart (fVar 2))) fNil))))) (fRet (fVar 2)) fnext
abbrev o_law_apart_1 : List PyData → DSt → Flow := loopF (bName 2) b_law_apart_1
def p_law_apart : DSt → Flow := fseq (fFor (fRng2 (pCons (fC (.int 1)) (pCons (fOp (lift2 addO) (fCall lenO (pCons (fVar 1) fNil)) (fC (.int 1))) fNil))) (bName 2) b_law_apart_1) (fRet (fC .none))
def F_law_apart : List R → Pw → FRes := runF 3 2 p_law_apart
/-! where first names don't hang together -/
def aprF (T : List (Int × Int)) (r : List Int) (m : Nat) : Option PyData := if (clT T (r.take m) ((r.take m).headD 0)).length = m then none else some (.int (m : Int))
def aprO (T : List (Int × Int)) (r : List Int) : Option PyData := (List.range' 1 r.length).findSome? (aprF T r)
def aprD (T : List (Int × Int)) (r : List Int) : PyData := (aprO T r).getD .none
theorem findSome_RC {α : Type} {l : List α} {t : α → Option PyData} : l.findSome? (fun k => (t k).map R.val) = (l.findSome? t).map R.val := by
  induction l with
  | nil => rfl
  | cons a l ih =>
    rw [List.findSome?_cons, List.findSome?_cons]
    cases e : t a with
    | none => simpa using ih
    | some x => simp
theorem rng1 {n : Nat} : (List.range' 1 n).map (fun k : Nat => PyData.int (k : Int)) = rangeD 1 n := by
  unfold rangeD
  rw [List.range'_eq_map_range, List.map_map]
  refine List.map_congr_left fun k _ => ?_
  simp
theorem apart_ok {T : List (Int × Int)} {r : List Int} {w : Pw} (hl : r.length ≤ 100) : F_apart_at [.val (.list ((T).map prT)), .val (.list ((r).map .int))] w = .ok (.val (aprD T r)) w := by
  have lf := loopFind (b := bName 2) (p := b_apart_at_1) (f := fun k : Nat => PyData.int (k : Int)) (l := List.range' 1 r.length) (s := ⟨[.val (.list ((T).map prT)), .val (.list ((r).map .int)), .no], w⟩)
    (fun k => (aprF T r k).map R.val) (fun s => ∃ v, s = ⟨[.val (.list ((T).map prT)), .val (.list ((r).map .int)), v], w⟩) (fun _ s => s.w = w) ⟨_, rfl⟩ (by
      rintro k hk s ⟨v, rfl⟩
      rw [List.mem_range'_1] at hk
      have lk : (r.take k).length = k := by rw [List.length_take]; omega
      have e := hang_ok (ties := T) (some := r.take k) (w := w) (by omega) (by omega)
      rw [lk] at e
      have c : cutD (r.map PyData.int) none (some (k : Int)) = (r.take k).map .int := by rw [cutD_map, cut_to]
      obtain ⟨C, hC⟩ : ∃ C, C = (r.take k).map PyData.int := ⟨_, rfl⟩
      rw [← hC] at c e
      unfold b_apart_at_1 aprF
      by_cases q : (clT T (r.take k) ((r.take k).headD 0)).length = k
      · simp -implicitDefEqProofs [c, e, q, -List.headD_eq_head?_getD]
      · simp -implicitDefEqProofs [c, e, q, -List.headD_eq_head?_getD])
  rw [findSome_RC, rng1] at lf
  have hB : inB (1 : Int) := inB_of (by omega) (by omega)
  have hB2 : inB ((r.length : Int) + 1) := inB_of (by omega) (by omega)
  have et : ((r.length : Int) + 1 - 1).toNat = r.length := by omega
  unfold aprD
  unfold F_apart_at p_apart_at
  simp only [x_runF]
  have eO : (List.range' 1 r.length).findSome? (aprF T r) = aprO T r := rfl
  rw [eO] at lf
  cases e : aprO T r with
  | none =>
    obtain ⟨s', e1, v, rfl⟩ := lf.1 (by rw [e]; rfl)
    simp -implicitDefEqProofs [hB, hB2, et, e1]
  | some d =>
    obtain ⟨s', e1, hw⟩ := lf.2 (.val d) (by rw [e]; rfl)
    simp -implicitDefEqProofs [hB, hB2, et, e1, hw]
theorem lapart_ok {T : List (Int × Int)} {r : List Int} {w : Pw} (hl : r.length ≤ 100) : F_law_apart [.val (.list ((T).map prT)), .val (.list ((r).map .int))] w = .ok (.val (aprD T r)) w := by
  have lf := loopFind (b := bName 2) (p := b_law_apart_1) (f := fun k : Nat => PyData.int (k : Int)) (l := List.range' 1 r.length) (s := ⟨[.val (.list ((T).map prT)), .val (.list ((r).map .int)), .no], w⟩)
    (fun k => (aprF T r k).map R.val) (fun s => ∃ v, s = ⟨[.val (.list ((T).map prT)), .val (.list ((r).map .int)), v], w⟩) (fun _ s => s.w = w) ⟨_, rfl⟩ (by
      rintro k hk s ⟨v, rfl⟩
      rw [List.mem_range'_1] at hk
      have lk : (r.take k).length = k := by rw [List.length_take]; omega
      have e := together_ok (ties := T) (some := r.take k) (w := w) (by omega) (by omega)
      rw [lk] at e
      have c : cutD (r.map PyData.int) none (some (k : Int)) = (r.take k).map .int := by rw [cutD_map, cut_to]
      obtain ⟨C, hC⟩ : ∃ C, C = (r.take k).map PyData.int := ⟨_, rfl⟩
      rw [← hC] at c e
      unfold b_law_apart_1 aprF
      by_cases q : (clT T (r.take k) ((r.take k).headD 0)).length = k
      · simp -implicitDefEqProofs [c, e, q, -List.headD_eq_head?_getD]
      · simp -implicitDefEqProofs [c, e, q, -List.headD_eq_head?_getD])
  rw [findSome_RC, rng1] at lf
  have hB : inB (1 : Int) := inB_of (by omega) (by omega)
  have hB2 : inB ((r.length : Int) + 1) := inB_of (by omega) (by omega)
  have et : ((r.length : Int) + 1 - 1).toNat = r.length := by omega
  unfold aprD
  unfold F_law_apart p_law_apart
  simp only [x_runF]
  have eO : (List.range' 1 r.length).findSome? (aprF T r) = aprO T r := rfl
  rw [eO] at lf
  cases e : aprO T r with
  | none =>
    obtain ⟨s', e1, v, rfl⟩ := lf.1 (by rw [e]; rfl)
    simp -implicitDefEqProofs [hB, hB2, et, e1]
  | some d =>
    obtain ⟨s', e1, hw⟩ := lf.2 (.val d) (by rw [e]; rfl)
    simp -implicitDefEqProofs [hB, hB2, et, e1, hw]
theorem head_take {r : List Int} {m : Nat} (h0 : 0 < m) (h : m ≤ r.length) : (r.take m).headD 0 = r.getD 0 0 ∧ r.getD 0 0 ∈ r.take m := by
  cases r with
  | nil => simp at h; omega
  | cons x r =>
    cases m with
    | zero => omega
    | succ m => simp
theorem aprF_none {T : List (Int × Int)} {r : List Int} {m : Nat} (hr : r.Nodup) (h0 : 0 < m) (h : m ≤ r.length) : aprF T r m = none ↔ Conn T (r.take m) (r.getD 0 0) := by
  obtain ⟨e, hm⟩ := head_take h0 h
  have lk : (r.take m).length = m := by rw [List.length_take]; omega
  have := clT_iff (T := T) (hr.sublist (List.take_sublist m r)) hm
  rw [lk] at this
  rw [← this]
  unfold aprF
  rw [e]
  split
  · rename_i q; exact ⟨fun _ => q, fun _ => rfl⟩
  · rename_i q; exact ⟨fun z => (nomatch z), fun z => (q z).elim⟩
theorem aprO_none {T : List (Int × Int)} {r : List Int} (hr : r.Nodup) : aprO T r = none ↔ ∀ m, 0 < m → m ≤ r.length → Conn T (r.take m) (r.getD 0 0) := by
  unfold aprO
  rw [List.findSome?_eq_none_iff]
  constructor
  · intro h m h0 h1
    exact (aprF_none hr h0 h1).mp (h m (by rw [List.mem_range'_1]; omega))
  · intro h m hm
    rw [List.mem_range'_1] at hm
    exact (aprF_none hr (by omega) (by omega)).mpr (h m (by omega) (by omega))
theorem getD_mem {r : List Int} {i : Nat} (h : i < r.length) : r.getD i 0 ∈ r := by
  rw [List.getD_eq_getElem?_getD, List.getElem?_eq_getElem h]
  exact List.getElem_mem h
theorem getD_take {r : List Int} {i m : Nat} (h : i < m) : (r.take m).getD i 0 = r.getD i 0 := by
  rw [List.getD_eq_getElem?_getD, List.getD_eq_getElem?_getD, List.getElem?_take_of_lt h]
theorem fal_conn {T : List (Int × Int)} {r : List Int} (h : Fal T r) {m : Nat} (h0 : 0 < m) (h1 : m ≤ r.length) : Conn T (r.take m) (r.getD 0 0) := by
  intro F hx hF
  have lk : (r.take m).length = m := by rw [List.length_take]; omega
  have key : ∀ k, k < m → F (r.getD k 0) := by
    intro k
    induction k using Nat.strongRecOn with
    | ind k ih =>
      intro hk
      by_cases z : k = 0
      · rw [z]; exact hx
      · obtain ⟨j, hj, mt⟩ := h k (by omega) (by omega)
        have mj : r.getD j 0 ∈ r.take m := by rw [← getD_take (m := m) (by omega)]; exact getD_mem (by omega)
        have mk : r.getD k 0 ∈ r.take m := by rw [← getD_take (m := m) hk]; exact getD_mem (by omega)
        have hh := hF _ mt (by rcases tieP_ends (r.getD j 0) (r.getD k 0) with ⟨e1, _⟩ | ⟨e1, _⟩ <;> rw [e1] <;> assumption) (by rcases tieP_ends (r.getD j 0) (r.getD k 0) with ⟨_, e1⟩ | ⟨_, e1⟩ <;> rw [e1] <;> assumption)
        exact (tie_iff hh).mp (ih j hj (by omega))
  intro y hy
  obtain ⟨k, hk, e⟩ := List.getElem_of_mem hy
  rw [lk] at hk
  have : (r.take m).getD k 0 = y := by rw [List.getD_eq_getElem?_getD, List.getElem?_eq_getElem (by omega)]; exact e
  rw [getD_take hk] at this
  rw [← this]
  exact key k hk
theorem fal_apr {T : List (Int × Int)} {r : List Int} (hr : r.Nodup) (h : Fal T r) : aprD T r = .none := by
  unfold aprD
  rw [(aprO_none hr).mpr fun m h0 h1 => fal_conn h h0 h1]
  rfl
/-! ### other names, in order -/
theorem nodup_mapC {α β : Type} {f : α → β} {l : List α} (h : l.Nodup) (hi : ∀ x ∈ l, ∀ y ∈ l, f x = f y → x = y) : (l.map f).Nodup := by
  unfold List.Nodup
  rw [List.pairwise_map]
  exact List.Pairwise.imp_of_mem (fun {a b} ha hb hne e => hne (hi a ha b hb e)) h
def mapT (g : Int → Int) (T : List (Int × Int)) : List (Int × Int) := T.map fun p => (g p.1, g p.2)
theorem conn_map {g : Int → Int} {N : List Int} (hg : ∀ x ∈ N, ∀ y ∈ N, g x = g y → x = y) {T : List (Int × Int)} (hT : ∀ p ∈ T, p.1 ∈ N ∧ p.2 ∈ N) {S : List Int} (hS : ∀ x ∈ S, x ∈ N) {x : Int} (hx : x ∈ N) : Conn (mapT g T) (S.map g) (g x) ↔ Conn T S x := by
  have inS : ∀ z ∈ N, g z ∈ S.map g → z ∈ S := fun z hz h => by
    obtain ⟨y, hy, e⟩ := List.mem_map.mp h
    have := hg y (hS y hy) z hz e
    rw [← this]; exact hy
  constructor
  · intro h F hFx hF y hy
    have := h (fun z => ∃ u ∈ N, g u = z ∧ F u) ⟨x, hx, rfl, hFx⟩ (fun p hp h1 h2 => by
      obtain ⟨q, hq, rfl⟩ := List.mem_map.mp hp
      obtain ⟨q1, q2⟩ := hT q hq
      have hh := hF q hq (inS _ q1 h1) (inS _ q2 h2)
      constructor
      · rintro ⟨u, hu, e, f⟩
        have := hg u hu q.1 q1 e
        subst this
        exact ⟨q.2, q2, rfl, hh.mp f⟩
      · rintro ⟨u, hu, e, f⟩
        have := hg u hu q.2 q2 e
        subst this
        exact ⟨q.1, q1, rfl, hh.mpr f⟩) (g y) (List.mem_map_of_mem hy)
    obtain ⟨u, hu, e, f⟩ := this
    have := hg u hu y (hS y hy) e
    rw [← this]; exact f
  · intro h F hFx hF y hy
    obtain ⟨z, hz, rfl⟩ := List.mem_map.mp hy
    exact h (fun u => F (g u)) hFx (fun p hp h1 h2 => hF (g p.1, g p.2) (List.mem_map_of_mem hp) (List.mem_map_of_mem h1) (List.mem_map_of_mem h2)) z hz
theorem apr_map {g : Int → Int} {N : List Int} (hg : ∀ x ∈ N, ∀ y ∈ N, g x = g y → x = y) {T : List (Int × Int)} (hT : ∀ p ∈ T, p.1 ∈ N ∧ p.2 ∈ N) {r : List Int} (hr : r.Nodup) (hS : ∀ x ∈ r, x ∈ N) : aprD (mapT g T) (r.map g) = aprD T r := by
  have nr : (r.map g).Nodup := by
    refine nodup_mapC hr ?_
    exact fun x hx y hy e => hg x (hS x hx) y (hS y hy) e
  have e : aprO (mapT g T) (r.map g) = aprO T r := by
    unfold aprO
    rw [List.length_map]
    have key : ∀ m ∈ List.range' 1 r.length, aprF (mapT g T) (r.map g) m = aprF T r m := by
      intro m hm
      rw [List.mem_range'_1] at hm
      have h1 := aprF_none (T := mapT g T) (m := m) nr (by omega) (by rw [List.length_map]; omega)
      have h2 := aprF_none (T := T) (m := m) hr (by omega) (by omega)
      have e0 : (r.map g).getD 0 0 = g (r.getD 0 0) := by
        cases r with
        | nil => simp at hm; omega
        | cons x r => rfl
      rw [e0, ← List.map_take, conn_map hg hT (fun x hx => hS x (List.mem_of_mem_take hx)) (hS _ (getD_mem (by omega))), ← h2] at h1
      have e3 : ∀ o : Option PyData, (o = none ∨ o = some (.int (m : Int))) → ∀ o', (o' = none ∨ o' = some (.int (m : Int))) → (o = none ↔ o' = none) → o = o' := by
        rintro o (rfl | rfl) o' (rfl | rfl) h
        · rfl
        · exact (nomatch (h.mp rfl))
        · exact (nomatch (h.mpr rfl))
        · rfl
      have sh : ∀ T r, aprF T r m = none ∨ aprF T r m = some (.int (m : Int)) := fun T r => by
        unfold aprF
        split
        · exact .inl rfl
        · exact .inr rfl
      exact e3 _ (sh _ _) _ (sh _ _) h1
    have fs : ∀ l : List Nat, (∀ m ∈ l, aprF (mapT g T) (r.map g) m = aprF T r m) → l.findSome? (aprF (mapT g T) (r.map g)) = l.findSome? (aprF T r) := by
      intro l
      induction l with
      | nil => intro _; rfl
      | cons m l ih =>
        intro h
        rw [List.findSome?_cons, List.findSome?_cons, h m List.mem_cons_self, ih fun m hm => h m (List.mem_cons_of_mem _ hm)]
    exact fs _ key
  unfold aprD
  rw [e]
/-! ### trees as they are made are right -/
theorem treeP_conn {N : List Int} {ps : List (Int × Int)} (hN : N.Nodup) (h0 : 0 < N.length) : TreeP N ps ↔ ps.length + 1 = N.length ∧ (∀ p ∈ ps, p.1 < p.2 ∧ p.1 ∈ N ∧ p.2 ∈ N) ∧ ps.Pairwise ltP ∧ Conn ps N (N.getD 0 0) := by
  obtain ⟨e, hm⟩ := head_take (r := N) (m := N.length) h0 (Nat.le_refl _)
  rw [List.take_length] at e hm
  have := clT_iff (T := ps) hN hm
  unfold TreeP
  rw [e, this]
theorem genT_tree {N : List Int} {T : List (Int × Int)} (hN : N.Nodup) (h0 : 0 < N.length) (h : GenT N T) : TreeP N T := by
  have h' := h
  have lt := genT_lt hN h
  have mi := genT_in h
  rw [treeP_conn hN h0]
  refine ⟨?_, fun p hp => ⟨lt p hp, mi p hp⟩, ?_, fun F hx hF y hy => genT_all h (fun p hp => hF p hp (mi p hp).1 (mi p hp).2) (getD_mem h0) hx y hy⟩
  · obtain ⟨L, f, hp, _, e, _⟩ := genT_mem h
    have := hp.length_eq
    omega
  · obtain ⟨L, f, hp, hf, rfl⟩ := h
    have nl : L.Nodup := hp.nodup_iff.mpr hN
    refine sortPr_nodup ?_
    refine nodup_mapC List.nodup_range' ?_
    intro i hi j hj e
    rw [List.mem_range'_1] at hi hj
    have fi := hf i (by omega) (by omega)
    have fj := hf j (by omega) (by omega)
    have inj : ∀ a b, a < L.length → b < L.length → L.getD a 0 = L.getD b 0 → a = b := fun a b ha hb q => by
      rw [List.getD_eq_getElem?_getD, List.getD_eq_getElem?_getD, List.getElem?_eq_getElem ha, List.getElem?_eq_getElem hb] at q
      exact (List.getElem_inj nl).mp (show L[a] = L[b] from q)
    have pe : ∀ a b c d : Int, tieP a b = tieP c d → (a = c ∧ b = d) ∨ (a = d ∧ b = c) := by
      intro a b c d q
      unfold tieP at q
      rw [Prod.mk.injEq] at q
      omega
    rcases pe _ _ _ _ e with ⟨q1, q2⟩ | ⟨q1, q2⟩
    · exact inj i j (by omega) (by omega) q1
    · have a := inj i (f j) (by omega) (by omega) q1
      have b := inj (f i) j (by omega) (by omega) q2
      omega

end DL

noncomputable section
namespace DL
open PySem L2
def t_law_marks_v3_1 : M Bool := fB (fVar 5)
def e_law_marks_v3_2 : M R := fVar 4
abbrev l_law_marks_v3_2 : M R := fLc (fZip (fCons (fVar 2) (fCons (fVar 1) fNil))) (bTup 2 (bCons (bName 4) (bCons (bName 5) bNil))) (t_law_marks_v3_1) (e_law_marks_v3_2) [4, 5]
def p_law_marks_v3 : DSt → Flow := fseq (fSet 1 (fLst (fCons (fIsX ["NoRanking", "NoTree"] "NoRanking" (fVar 0)) (fCons (fIsY ["NoRanking", "NoTree"] "NoFolk" (fVar 0)) (fCons (fIsY ["NoRanking", "NoTree"] "NoNames" (fVar 0)) fNil))))) (fseq (fSet 1 (fOp (lift2 addO) (fVar 1) (fLst (fCons (fIsY ["NoRanking", "NoTree"] "NoFit" (fVar 0)) (fCons (fIsY ["NoRanking", "NoTree"] "NoLine" (fVar 0)) (fCons (fIsY ["NoRanking", "NoTree"] "NoNumber" (fVar 0)) fNil)))))) (fseq (fSet 1 (fOp (lift2 addO) (fVar 1) (fLst (fCons (fIsX ["NoRanking", "NoTree"] "NoTree" (fVar 0)) (fCons (fIsY ["NoRanking", "NoTree"] "NoPaper" (fVar 0)) (fCons (fIsY ["NoRanking", "NoTree"] "NoText" (fVar 0)) fNil)))))) (fseq (fSet 1 (fOp (lift2 addO) (fVar 1) (fLst (fCons (fIsY ["NoRanking", "NoTree"] "NoTitle" (fVar 0)) (fCons (fIsY ["NoRanking", "NoTree"] "NoRow" (fVar 0)) (fCons (fIsY ["NoRanking", "NoTree"] "NoBack" (fVar 0)) fNil)))))) (fseq (fSet 1 (fOp (lift2 addO) (fVar 1) (fLst (fCons (fIsY ["NoRanking", "NoTree"] "TooGreat" (fVar 0)) (fCons (fIsY ["NoRanking", "NoTree"] "NoWeights" (fVar 0)) (fCons (fIsY ["NoRanking", "NoTree"] "NoFall" (fVar 0)) fNil)))))) (fseq (fSet 1 (fOp (lift2 addO) (fVar 1) (fLst (fCons (fIsY ["NoRanking", "NoTree"] "NoTops" (fVar 0)) (fCons (fIsY ["NoRanking", "NoTree"] "NoFixed" (fVar 0)) (fCons (fIsY ["NoRanking", "NoTree"] "NoHand" (fVar 0)) fNil)))))) (fseq (fSet 1 (fOp (lift2 addO) (fVar 1) (fLst (fCons (fIsY ["NoRanking", "NoTree"] "NoRule" (fVar 0)) fNil)))) (fseq (fSet 2 (fSplit (fC (.str "NoRanking NoFolk NoNames NoFit NoLine NoNumber NoTree NoPaper")) (fC (.str " ")))) (fseq (fSet 2 (fOp (lift2 addO) (fVar 2) (fSplit (fC (.str "NoText NoTitle NoRow NoBack TooGreat NoWeights NoFall NoTops")) (fC (.str " "))))) (fseq (fSet 2 (fOp (lift2 addO) (fVar 2) (fSplit (fC (.str "NoFixed NoHand NoRule")) (fC (.str " "))))) (fseq (fSet 3 (fLc (fZip (fCons (fVar 2) (fCons (fVar 1) fNil))) (bTup 2 (bCons (bName 4) (bCons (bName 5) bNil))) (t_law_marks_v3_1) (e_law_marks_v3_2) [4, 5])) (fseq (fIfS (fNot (fB (fIsV ["NoRanking", "NoTree"] (fVar 0)))) (fDrop (fApp 3 (fC (.str "none")))) fnext) (fRet (fVar 3)))))))))))))
def F_law_marks_v3 : List R → Pw → FRes := runF 6 1 p_law_marks_v3
def b_law_told_v25_1 : DSt → Flow := fSet 4 (fUser F_first_apart_v2 (fCons (fOp (lift2 ixO) (fVar 2) (fC (.int 0))) (fCons (fOp (lift2 ixO) (fVar 2) (fC (.int 1))) fNil)))
def p_law_told_v25 : DSt → Flow := fseq (fSet 2 (fUser (F_law_copied 6) (fCons (fLst (fCons (fVar 0) (fCons (fVar 1) fNil))) fNil))) (fseq (fSet 3 (fC .none)) (fseq (fSet 4 (fC .none)) (fseq (fTry ["NoRanking", "NoTree"] 5 3 b_law_told_v25_1) (fseq (fIfS (fOr (fB (fOp (lift2 neO) (fVar 2) (fLst (fCons (fVar 0) (fCons (fVar 1) fNil))))) (fB (fIsi "bool" (fVar 4)))) (fRet (fLst (fCons (fC (.str "changed")) fNil))) fnext) (fseq (fIfS (fB (fIsN true (fVar 3))) (fRet (fUser F_law_marks_v3 (fCons (fVar 3) fNil))) fnext) (fRet (fVar 4)))))))
def F_law_told_v25 : List R → Pw → FRes := runF 6 2 p_law_told_v25
def e_law_put_off_v3_1 : M R := fTup (fCons (fDGet (fVar 2) (fVar 3)) (fCons (fDGet (fVar 2) (fVar 4)) fNil))
abbrev l_law_put_off_v3_1 : M R := fLc (fLstI (fVar 0)) (bTup 2 (bCons (bName 3) (bCons (bName 4) bNil))) fYes (e_law_put_off_v3_1) [3, 4]
def e_law_put_off_v3_2 : M R := fDGet (fVar 2) (fVar 5)
abbrev l_law_put_off_v3_2 : M R := fLc (fLstI (fVar 1)) (bName 5) fYes (e_law_put_off_v3_2) [5]
def p_law_put_off_v3 : DSt → Flow := fRet (fTup (fCons (fLc (fLstI (fVar 0)) (bTup 2 (bCons (bName 3) (bCons (bName 4) bNil))) fYes (e_law_put_off_v3_1) [3, 4]) (fCons (fLc (fLstI (fVar 1)) (bName 5) fYes (e_law_put_off_v3_2) [5]) fNil)))
def F_law_put_off_v3 : List R → Pw → FRes := runF 6 3 p_law_put_off_v3
def p_law_refused_v31 : DSt → Flow := fseq (fSet 4 (fLst (fCons (fC .none) (fCons (fLst fNil) (fCons (fCall tupleO (pCons (fVar 3) fNil)) (fCons (fOp (lift2 addO) (fVar 3) (fSlice (fVar 3) fNoPart (fPart (fC (.int 1))))) (fCons (fLst (fCons (fC (.bool true)) fNil)) (fCons (fOp (lift2 addO) (fSlice (fVar 3) fNoPart (fPart (fUn (lift1 negO) (fC (.int 1))))) (fLst (fCons (fUn (lift1 negO) (fC (.int 1))) fNil))) (fCons (fLRng1 (fC (.int 11))) (fCons (fC (.str "1")) (fCons (fLst (fCons (fC .none) fNil)) fNil))))))))))) (fseq (fSet 5 (fOp (lift2 ixO) (fVar 4) (fUser F_law_draw_v3 (fCons (fVar 0) (fCons (fCall lenO (pCons (fVar 4) fNil)) fNil))))) (fseq (fSet 6 (fCall sortedO (pCons (fOp (lift2 addO) (fSlice (fVar 1) (fPart (fC (.int 1))) fNoPart) (fLst (fCons (fOp (lift2 addO) (fOp (lift2 ixO) (fVar 1) (fUn (lift1 negO) (fC (.int 1)))) (fC (.int 1))) fNil))) fNil))) (fseq (fSet 7 (fLst (fCons (fC .none) (fCons (fTup fNil) (fCons (fCall tupleO (pCons (fVar 2) fNil)) (fCons (fOp (lift2 addO) (fVar 2) (fLst (fCons (fTup (fCons (fC (.int 0)) (fCons (fC (.int 1)) fNil))) fNil))) (fCons (fC (.str "tree")) (fCons (fC (.int 7)) (fCons (fOp (lift2 addO) (fVar 2) (fLst (fCons (fVar 2) fNil))) (fCons (fLst (fCons (fLst fNil) fNil)) (fCons (fUser F_law_tree_v2 (fCons (fVar 0) (fCons (fVar 6) fNil))) fNil))))))))))) (fseq (fIfS (fB (fOp (lift2 eqO) (fCall lenO (pCons (fVar 1) fNil)) (fC (.int 1)))) (fSet 7 (fOp (lift2 addO) (fSlice (fVar 7) fNoPart (fPart (fC (.int 2)))) (fLst (fCons (fLst (fCons (fTup (fCons (fOp (lift2 ixO) (fVar 1) (fC (.int 0))) (fCons (fOp (lift2 ixO) (fVar 1) (fC (.int 0))) fNil))) fNil)) (fCons (fC (.str "tree")) fNil))))) fnext) (fseq (fSet 8 (fOp (lift2 ixO) (fVar 7) (fUser F_law_draw_v3 (fCons (fVar 0) (fCons (fCall lenO (pCons (fVar 7) fNil)) fNil))))) (fseq (fIfS (fOr (fB (fOp (lift2 neO) (fUser F_law_told_v25 (fCons (fVar 2) (fCons (fVar 5) fNil))) (fLst (fCons (fC (.str "NoRanking")) fNil)))) (fB (fOp (lift2 neO) (fUser F_law_told_v25 (fCons (fVar 8) (fCons (fVar 5) fNil))) (fLst (fCons (fC (.str "NoRanking")) fNil))))) (fRet (fC (.bool false))) fnext) (fRet (fOp (lift2 eqO) (fUser F_law_told_v25 (fCons (fVar 8) (fCons (fVar 3) fNil))) (fLst (fCons (fC (.str "NoTree")) fNil))))))))))
def F_law_refused_v31 : List R → Pw → FRes := runF 9 4 p_law_refused_v31
def b_law_k71_1 : DSt → Flow := fseq (fSet 10 (fUser F_law_apart (fCons (fVar 5) (fCons (fVar 9) fNil)))) (fseq (fSet 11 (fUser F_law_put_off_v3 (fCons (fVar 5) (fCons (fVar 9) (fCons (fVar 4) fNil))))) (fIfS (fOr (fB (fOp (lift2 neO) (fUser F_law_told_v25 (fCons (fVar 5) (fCons (fVar 9) fNil))) (fVar 10))) (fB (fOp (lift2 neO) (fUser F_law_told_v25 (fCons (fOp (lift2 ixO) (fVar 11) (fC (.int 0))) (fCons (fOp (lift2 ixO) (fVar 11) (fC (.int 1))) fNil))) (fVar 10)))) (fRet (fC (.bool false))) fnext))
abbrev o_law_k71_1 : List PyData → DSt → Flow := loopF (bName 9) b_law_k71_1
def b_law_k71_2 : DSt → Flow := fseq (fSet 3 (fUser F_law_names_v6 (fCons (fVar 2) (fCons (fOp (lift2 addO) (fC (.int 1)) (fUser F_law_draw_v3 (fCons (fVar 2) (fCons (fC (.int 10)) fNil)))) fNil)))) (fseq (fSet 4 (fDZip (fCons (fVar 3) (fCons (fUser F_law_names_v6 (fCons (fVar 2) (fCons (fCall lenO (pCons (fVar 3) fNil)) fNil))) fNil)))) (fseq (fSet 5 (fUser F_law_tree_v2 (fCons (fVar 2) (fCons (fVar 3) fNil)))) (fseq (fSet 6 (fUser F_law_falling_v3 (fCons (fVar 2) (fCons (fVar 3) (fCons (fVar 5) fNil))))) (fseq (fIfS (fB (fIsN true (fUser F_law_told_v25 (fCons (fVar 5) (fCons (fVar 6) fNil))))) (fRet (fC (.bool false))) fnext) (fseq (fSet 7 (fCall listO (pCons (fVar 6) fNil))) (fseq (fIfS (fB (fOp (lift2 gtO) (fCall lenO (pCons (fVar 3) fNil)) (fC (.int 1)))) (fseq (fSet 8 (fUser F_law_draw_v3 (fCons (fVar 2) (fCons (fOp (lift2 subO) (fCall lenO (pCons (fVar 3) fNil)) (fC (.int 1))) fNil)))) (fSet 7 (fOp (lift2 addO) (fOp (lift2 addO) (fSlice (fVar 6) fNoPart (fPart (fVar 8))) (fLst (fCons (fOp (lift2 ixO) (fVar 6) (fOp (lift2 addO) (fVar 8) (fC (.int 1)))) (fCons (fOp (lift2 ixO) (fVar 6) (fVar 8)) fNil)))) (fSlice (fVar 6) (fPart (fOp (lift2 addO) (fVar 8) (fC (.int 2)))) fNoPart)))) fnext) (fseq (fFor (fLstI (fLst (fCons (fVar 7) (fCons (fUser F_law_shuffled_v3 (fCons (fVar 2) (fCons (fVar 3) fNil))) fNil)))) (bName 9) b_law_k71_1) (fIfS (fNot (fB (fUser F_law_refused_v31 (fCons (fVar 2) (fCons (fVar 3) (fCons (fVar 5) (fCons (fVar 6) fNil))))))) (fRet (fC (.bool false))) fnext))))))))
def p_law_k71 : DSt → Flow := fseq (fForW (fLstI (fOp (lift2 addO) (fLst (fCons (fC (.int 5)) fNil)) (fScCut 5 (fVar 0)))) (bName 1) 2 (fUser F_law_left (fCons (fVar 1) fNil)) b_law_k71_2) (fRet (fC (.bool true)))
def F_law_k71 : List R → Pw → FRes := runF 12 1 p_law_k71
theorem law_marks_v3_NoRanking {w : Pw} : F_law_marks_v3 [.ob (.exc ⟨"NoRanking", none⟩)] w = .ok (.new [.str "NoRanking"]) w := by
  have sp0 : Txt.split (Str.ofString "NoRanking NoFolk NoNames NoFit NoLine NoNumber NoTree NoPaper") (Str.ofString " ") = (["NoRanking", "NoFolk", "NoNames", "NoFit", "NoLine", "NoNumber", "NoTree", "NoPaper"] : List Str) := by decide +kernel
  have cc0 : ((Str.ofString " ").length == 0) = false ∧ leS ((Str.ofString "NoRanking NoFolk NoNames NoFit NoLine NoNumber NoTree NoPaper").length + 2) := ⟨by decide +kernel, size_le (by decide +kernel)⟩
  have sp1 : Txt.split (Str.ofString "NoText NoTitle NoRow NoBack TooGreat NoWeights NoFall NoTops") (Str.ofString " ") = (["NoText", "NoTitle", "NoRow", "NoBack", "TooGreat", "NoWeights", "NoFall", "NoTops"] : List Str) := by decide +kernel
  have cc1 : ((Str.ofString " ").length == 0) = false ∧ leS ((Str.ofString "NoText NoTitle NoRow NoBack TooGreat NoWeights NoFall NoTops").length + 2) := ⟨by decide +kernel, size_le (by decide +kernel)⟩
  have sp2 : Txt.split (Str.ofString "NoFixed NoHand NoRule") (Str.ofString " ") = (["NoFixed", "NoHand", "NoRule"] : List Str) := by decide +kernel
  have cc2 : ((Str.ofString " ").length == 0) = false ∧ leS ((Str.ofString "NoFixed NoHand NoRule").length + 2) := ⟨by decide +kernel, size_le (by decide +kernel)⟩
  obtain ⟨Ws, hWs⟩ : ∃ Ws : List PyData, [PyData.str "NoRanking", PyData.str "NoFolk", PyData.str "NoNames", PyData.str "NoFit", PyData.str "NoLine", PyData.str "NoNumber", PyData.str "NoTree", PyData.str "NoPaper", PyData.str "NoText", PyData.str "NoTitle", PyData.str "NoRow", PyData.str "NoBack", PyData.str "TooGreat", PyData.str "NoWeights", PyData.str "NoFall", PyData.str "NoTops", PyData.str "NoFixed", PyData.str "NoHand", PyData.str "NoRule"] = Ws := ⟨_, rfl⟩
  obtain ⟨Hs, hHs⟩ : ∃ Hs : List PyData, [PyData.bool true, PyData.bool false, PyData.bool false, PyData.bool false, PyData.bool false, PyData.bool false, PyData.bool false, PyData.bool false, PyData.bool false, PyData.bool false, PyData.bool false, PyData.bool false, PyData.bool false, PyData.bool false, PyData.bool false, PyData.bool false, PyData.bool false, PyData.bool false, PyData.bool false] = Hs := ⟨_, rfl⟩
  obtain ⟨L, hL, lL, fL⟩ : ∃ L : List (Str × Bool), zipD Ws Hs = L.map tgC ∧ L.length = 19 ∧ (L.filter (·.2)).map (fun p => PyData.str p.1) = [.str "NoRanking"] := by
    refine ⟨[("NoRanking", true), ("NoFolk", false), ("NoNames", false), ("NoFit", false), ("NoLine", false), ("NoNumber", false), ("NoTree", false), ("NoPaper", false), ("NoText", false), ("NoTitle", false), ("NoRow", false), ("NoBack", false), ("TooGreat", false), ("NoWeights", false), ("NoFall", false), ("NoTops", false), ("NoFixed", false), ("NoHand", false), ("NoRule", false)], ?_, rfl, rfl⟩
    rw [← hWs, ← hHs]; rfl
  have e : l_law_marks_v3_2 ⟨[.ob (.exc ⟨"NoRanking", none⟩), .own Hs, .own Ws, .no, .no, .no], w⟩ = .ok (.new ((L.filter (·.2)).map fun p => .str p.1)) ⟨[.ob (.exc ⟨"NoRanking", none⟩), .val (.list Hs), .val (.list Ws), .no, .no, .no], w⟩ := by
    refine lc_gen (fun p : Str × Bool => ⟨[.ob (.exc ⟨"NoRanking", none⟩), .val (.list Hs), .val (.list Ws), .no, .val (.str p.1), .val (.bool p.2)], w⟩) _ _ (f := tgC) (l := L) (by simp -implicitDefEqProofs [hL]) (by omega) rfl (fun a _ => by rfl) (fun a _ => by rfl) (fun p hp => ?_) (fun p hp _ => ?_)
    · unfold t_law_marks_v3_1
      simp -implicitDefEqProofs
    · unfold e_law_marks_v3_2
      simp -implicitDefEqProofs
  rw [fL] at e
  have s1 : leS 1 := size_le (by omega)
  have s3 : leS 3 := size_le (by omega)
  have s6 : leS 6 := size_le (by omega)
  have s9 : leS 9 := size_le (by omega)
  have s12 : leS 12 := size_le (by omega)
  have s15 : leS 15 := size_le (by omega)
  have s18 : leS 18 := size_le (by omega)
  have s19 : leS 19 := size_le (by omega)
  have s16 : leS 16 := size_le (by omega)
  unfold F_law_marks_v3 p_law_marks_v3
  simp only [x_runF]
  simp -implicitDefEqProofs [s1, s3, s6, s9, s12, s15, s18, s19, s16, sp0, sp1, sp2, cc0, cc1, cc2, hWs, hHs, e]
theorem law_marks_v3_NoTree {w : Pw} : F_law_marks_v3 [.ob (.exc ⟨"NoTree", none⟩)] w = .ok (.new [.str "NoTree"]) w := by
  have sp0 : Txt.split (Str.ofString "NoRanking NoFolk NoNames NoFit NoLine NoNumber NoTree NoPaper") (Str.ofString " ") = (["NoRanking", "NoFolk", "NoNames", "NoFit", "NoLine", "NoNumber", "NoTree", "NoPaper"] : List Str) := by decide +kernel
  have cc0 : ((Str.ofString " ").length == 0) = false ∧ leS ((Str.ofString "NoRanking NoFolk NoNames NoFit NoLine NoNumber NoTree NoPaper").length + 2) := ⟨by decide +kernel, size_le (by decide +kernel)⟩
  have sp1 : Txt.split (Str.ofString "NoText NoTitle NoRow NoBack TooGreat NoWeights NoFall NoTops") (Str.ofString " ") = (["NoText", "NoTitle", "NoRow", "NoBack", "TooGreat", "NoWeights", "NoFall", "NoTops"] : List Str) := by decide +kernel
  have cc1 : ((Str.ofString " ").length == 0) = false ∧ leS ((Str.ofString "NoText NoTitle NoRow NoBack TooGreat NoWeights NoFall NoTops").length + 2) := ⟨by decide +kernel, size_le (by decide +kernel)⟩
  have sp2 : Txt.split (Str.ofString "NoFixed NoHand NoRule") (Str.ofString " ") = (["NoFixed", "NoHand", "NoRule"] : List Str) := by decide +kernel
  have cc2 : ((Str.ofString " ").length == 0) = false ∧ leS ((Str.ofString "NoFixed NoHand NoRule").length + 2) := ⟨by decide +kernel, size_le (by decide +kernel)⟩
  obtain ⟨Ws, hWs⟩ : ∃ Ws : List PyData, [PyData.str "NoRanking", PyData.str "NoFolk", PyData.str "NoNames", PyData.str "NoFit", PyData.str "NoLine", PyData.str "NoNumber", PyData.str "NoTree", PyData.str "NoPaper", PyData.str "NoText", PyData.str "NoTitle", PyData.str "NoRow", PyData.str "NoBack", PyData.str "TooGreat", PyData.str "NoWeights", PyData.str "NoFall", PyData.str "NoTops", PyData.str "NoFixed", PyData.str "NoHand", PyData.str "NoRule"] = Ws := ⟨_, rfl⟩
  obtain ⟨Hs, hHs⟩ : ∃ Hs : List PyData, [PyData.bool false, PyData.bool false, PyData.bool false, PyData.bool false, PyData.bool false, PyData.bool false, PyData.bool true, PyData.bool false, PyData.bool false, PyData.bool false, PyData.bool false, PyData.bool false, PyData.bool false, PyData.bool false, PyData.bool false, PyData.bool false, PyData.bool false, PyData.bool false, PyData.bool false] = Hs := ⟨_, rfl⟩
  obtain ⟨L, hL, lL, fL⟩ : ∃ L : List (Str × Bool), zipD Ws Hs = L.map tgC ∧ L.length = 19 ∧ (L.filter (·.2)).map (fun p => PyData.str p.1) = [.str "NoTree"] := by
    refine ⟨[("NoRanking", false), ("NoFolk", false), ("NoNames", false), ("NoFit", false), ("NoLine", false), ("NoNumber", false), ("NoTree", true), ("NoPaper", false), ("NoText", false), ("NoTitle", false), ("NoRow", false), ("NoBack", false), ("TooGreat", false), ("NoWeights", false), ("NoFall", false), ("NoTops", false), ("NoFixed", false), ("NoHand", false), ("NoRule", false)], ?_, rfl, rfl⟩
    rw [← hWs, ← hHs]; rfl
  have e : l_law_marks_v3_2 ⟨[.ob (.exc ⟨"NoTree", none⟩), .own Hs, .own Ws, .no, .no, .no], w⟩ = .ok (.new ((L.filter (·.2)).map fun p => .str p.1)) ⟨[.ob (.exc ⟨"NoTree", none⟩), .val (.list Hs), .val (.list Ws), .no, .no, .no], w⟩ := by
    refine lc_gen (fun p : Str × Bool => ⟨[.ob (.exc ⟨"NoTree", none⟩), .val (.list Hs), .val (.list Ws), .no, .val (.str p.1), .val (.bool p.2)], w⟩) _ _ (f := tgC) (l := L) (by simp -implicitDefEqProofs [hL]) (by omega) rfl (fun a _ => by rfl) (fun a _ => by rfl) (fun p hp => ?_) (fun p hp _ => ?_)
    · unfold t_law_marks_v3_1
      simp -implicitDefEqProofs
    · unfold e_law_marks_v3_2
      simp -implicitDefEqProofs
  rw [fL] at e
  have s1 : leS 1 := size_le (by omega)
  have s3 : leS 3 := size_le (by omega)
  have s6 : leS 6 := size_le (by omega)
  have s9 : leS 9 := size_le (by omega)
  have s12 : leS 12 := size_le (by omega)
  have s15 : leS 15 := size_le (by omega)
  have s18 : leS 18 := size_le (by omega)
  have s19 : leS 19 := size_le (by omega)
  have s16 : leS 16 := size_le (by omega)
  unfold F_law_marks_v3 p_law_marks_v3
  simp only [x_runF]
  simp -implicitDefEqProofs [s1, s3, s6, s9, s12, s15, s18, s19, s16, sp0, sp1, sp2, cc0, cc1, cc2, hWs, hHs, e]
theorem must_tree_ok {N : List Int} {d : PyData} {w : Pw} (h0 : 0 < N.length) (hs : N.length ≤ 60) (hn : ∀ x ∈ N, 0 ≤ x) (hl : lenOk d) : F_must_be_tree_v2 [.val (.list ((N).map .int)), .val d] w = if treeB N d = true then .ok (.val .none) w else .err ⟨"NoTree", none⟩ w := by
  have e := right_any (w := w) h0 hs hn hl
  unfold F_must_be_tree_v2 p_must_be_tree_v2
  simp only [x_runF]
  by_cases q : treeB N d = true
  · simp -implicitDefEqProofs [e, q]
  · simp -implicitDefEqProofs [e, q]
theorem must_rank_ok {d : PyData} {w : Pw} (hl : lenOk d) : F_must_be_ranking [.val d] w = if rankB d = true then .ok (.val .none) w else .err ⟨"NoRanking", none⟩ w := by
  have e := is_ranking_any (w := w) hl
  unfold F_must_be_ranking p_must_be_ranking
  simp only [x_runF]
  by_cases q : rankB d = true
  · simp -implicitDefEqProofs [e, q]
  · simp -implicitDefEqProofs [e, q]
theorem fapart_rank {t d : PyData} {w : Pw} (hl : lenOk d) (h : rankB d = false) : F_first_apart_v2 [.val t, .val d] w = .err ⟨"NoRanking", none⟩ w := by
  have e := must_rank_ok (w := w) hl
  rw [h, if_neg (by simp)] at e
  unfold F_first_apart_v2 p_first_apart_v2
  simp only [x_runF]
  simp -implicitDefEqProofs [e]
theorem fapart_tree {N r : List Int} {t : PyData} {w : Pw} (hN : Rank N) (hs : N.Pairwise (· < ·)) (hr : r.Perm N) (hl : lenOk t) (h : treeB N t = false) : F_first_apart_v2 [.val t, .val (.list ((r).map .int))] w = .err ⟨"NoTree", none⟩ w := by
  have l10 := hN.2.2.2
  have lr := hr.length_eq
  have e := must_rank_ok (w := w) (d := .list (r.map .int)) (by show (r.map PyData.int).length ≤ 4000; rw [List.length_map]; omega)
  rw [rankB_ints, decide_eq_true (hN.perm hr), if_pos rfl] at e
  have es := sortI_of_perm hs hr
  have e2 := must_tree_ok (w := w) hN.2.2.1 (by omega) hN.2.1 hl
  rw [h, if_neg (by simp)] at e2
  unfold F_first_apart_v2 p_first_apart_v2
  simp only [x_runF]
  simp -implicitDefEqProofs [e, es, e2]
theorem fapart_ok {N r : List Int} {T : List (Int × Int)} {w : Pw} (hN : Rank N) (hs : N.Pairwise (· < ·)) (hr : r.Perm N) (h : TreeP N T) : F_first_apart_v2 [.val (.list ((T).map prT)), .val (.list ((r).map .int))] w = .ok (.val (aprD T r)) w := by
  have l10 := hN.2.2.2
  have lr := hr.length_eq
  have e := must_rank_ok (w := w) (d := .list (r.map .int)) (by show (r.map PyData.int).length ≤ 4000; rw [List.length_map]; omega)
  rw [rankB_ints, decide_eq_true (hN.perm hr), if_pos rfl] at e
  have es := sortI_of_perm hs hr
  have e2 := must_tree_ok (w := w) (d := .list (T.map prT)) hN.2.2.1 (by omega) hN.2.1 (by show (T.map prT).length ≤ 4000; rw [List.length_map]; have := h.1; omega)
  rw [treeB_map, decide_eq_true h, if_pos rfl] at e2
  have e3 := apart_ok (T := T) (r := r) (w := w) (by omega)
  obtain ⟨D, hD⟩ : ∃ D, D = T.map prT := ⟨_, rfl⟩
  rw [← hD] at e2 e3 ⊢
  unfold F_first_apart_v2 p_first_apart_v2
  simp only [x_runF]
  simp -implicitDefEqProofs [e, es, e2, e3]
/-! ### told -/
theorem bdd_tw {n : Nat} {d e : PyData} (hd : bdd n d) (he : bdd n e) : bdd (n + 1) (.list [d, e]) := bdd_list.mpr ⟨by simp, fun x hx => by
  simp only [List.mem_cons, List.not_mem_nil, or_false] at hx
  rcases hx with rfl | rfl
  · exact hd
  · exact he⟩
theorem told71_err {t d : PyData} {w : Pw} {n : String} (hn : n = "NoRanking" ∨ n = "NoTree") (ht : bdd 4 t) (hd : bdd 4 d) (h : ∀ w, F_first_apart_v2 [.val t, .val d] w = .err ⟨n, none⟩ w) : F_law_told_v25 [.val t, .val d] w = .ok (.new [.str n]) w := by
  have b2 := bdd_tw ht hd
  have e1 := copC_ok (w := w) (m := 6) b2 (by omega)
  have e2 := neO_self b2 (by omega)
  have s2 : leS 2 := size_le (by omega)
  obtain ⟨D, hD⟩ : ∃ D, D = [t, d] := ⟨_, rfl⟩
  have sD : leS D.length := size_le (by rw [hD]; simp)
  have a0 : D[0]? = some t := by rw [hD]; rfl
  have a1 : D[1]? = some d := by rw [hD]; rfl
  have hb2 : b_law_told_v25_1 ⟨[.val t, .val d, .own D, .val .none, .val .none, .no], w⟩ = .err ⟨n, none⟩ ⟨[.val t, .val d, .own D, .val .none, .val .none, .no], w⟩ := by
    unfold b_law_told_v25_1
    simp -implicitDefEqProofs [a0, a1, h]
  rw [← hD] at e1 e2
  unfold F_law_told_v25 p_law_told_v25
  simp only [x_runF]
  rcases hn with rfl | rfl
  · simp -implicitDefEqProofs [s2, sD, ← hD, e1, cpC, hb2, e2, law_marks_v3_NoRanking]
  · simp -implicitDefEqProofs [s2, sD, ← hD, e1, cpC, hb2, e2, law_marks_v3_NoTree]
def noi (x : PyData) : Prop := x = .none ∨ ∃ i, x = .int i
theorem told71_ok {t d x : PyData} {w : Pw} (hx : noi x) (ht : bdd 4 t) (hd : bdd 4 d) (h : ∀ w, F_first_apart_v2 [.val t, .val d] w = .ok (.val x) w) : F_law_told_v25 [.val t, .val d] w = .ok (.val x) w := by
  have b2 := bdd_tw ht hd
  have e1 := copC_ok (w := w) (m := 6) b2 (by omega)
  have e2 := neO_self b2 (by omega)
  have s2 : leS 2 := size_le (by omega)
  obtain ⟨D, hD⟩ : ∃ D, D = [t, d] := ⟨_, rfl⟩
  have sD : leS D.length := size_le (by rw [hD]; simp)
  have a0 : D[0]? = some t := by rw [hD]; rfl
  have a1 : D[1]? = some d := by rw [hD]; rfl
  have hb2 : b_law_told_v25_1 ⟨[.val t, .val d, .own D, .val .none, .val .none, .no], w⟩ = .next ⟨[.val t, .val d, .own D, .val .none, .val x, .no], w⟩ := by
    unfold b_law_told_v25_1
    simp -implicitDefEqProofs [a0, a1, h]
  rw [← hD] at e1 e2
  unfold F_law_told_v25 p_law_told_v25
  simp only [x_runF]
  rcases hx with rfl | ⟨i, rfl⟩
  · simp -implicitDefEqProofs [s2, sD, ← hD, e1, cpC, hb2, e2]
  · simp -implicitDefEqProofs [s2, sD, ← hD, e1, cpC, hb2, e2]
theorem noi_apr {T : List (Int × Int)} {r : List Int} : noi (aprD T r) := by
  unfold aprD
  cases e : aprO T r with
  | none => exact .inl rfl
  | some x =>
    refine .inr ?_
    obtain ⟨m, hm, q⟩ := List.exists_of_findSome?_eq_some e
    unfold aprF at q
    split at q
    · cases q
    · cases q; exact ⟨_, rfl⟩
/-! ### other names -/
theorem valD_zip {N M : List Int} (hN : N.Nodup) {x : Int} (hx : x ∈ N) (hl : N.length = M.length) : valD ((N.map Sum.inl : List Key).zip (M.map PyData.int)) (.inl x) = some (.int (M.getD (N.idxOf x) 0)) := by
  induction N generalizing M with
  | nil => simp at hx
  | cons y N ih =>
    cases M with
    | nil => simp at hl
    | cons z M =>
      simp only [List.map_cons, List.zip_cons_cons]
      rw [valD_cons]
      by_cases q : y = x
      · subst q
        rw [if_pos rfl]
        simp
      · rw [if_neg (by intro e; exact q (Sum.inl.inj e))]
        obtain ⟨n1, n2⟩ := List.nodup_cons.mp hN
        have mx : x ∈ N := by
          rcases List.mem_cons.mp hx with e | e
          · exact (q e.symm).elim
          · exact e
        rw [ih n2 mx (by simpa using hl)]
        have : (y :: N).idxOf x = N.idxOf x + 1 := by
          rw [List.idxOf_cons]
          have : (y == x) = false := by simpa using q
          rw [this]; rfl
        rw [this]
        simp
theorem keys_ints : ∀ {N : List Int}, keysD (N.map .int) = some (N.map Sum.inl)
  | [] => rfl
  | x :: N => by
    rw [List.map_cons, keysD, keys_ints]
    rfl
def subG (N M : List Int) (x : Int) : Int := M.getD (N.idxOf x) 0
theorem subG_lt {N M : List Int} (hN : N.Pairwise (· < ·)) (hM : M.Pairwise (· < ·)) (hl : N.length = M.length) {x y : Int} (hx : x ∈ N) (hy : y ∈ N) (h : x < y) : subG N M x < subG N M y := by
  have ix := List.idxOf_lt_length_of_mem hx
  have iy := List.idxOf_lt_length_of_mem hy
  have nd : ∀ i (hi : i < N.length), N[i] = N[i] := fun _ _ => rfl
  have ex : N[N.idxOf x] = x := List.getElem_idxOf ix
  have ey : N[N.idxOf y] = y := List.getElem_idxOf iy
  have lt : N.idxOf x < N.idxOf y := by
    refine Classical.byContradiction fun c => ?_
    by_cases q : N.idxOf x = N.idxOf y
    · have : N[N.idxOf x] = N[N.idxOf y] := by simp only [q]
      rw [ex, ey] at this
      omega
    · have := List.pairwise_iff_getElem.mp hN (N.idxOf y) (N.idxOf x) iy ix (by omega)
      rw [ex, ey] at this
      omega
  have := List.pairwise_iff_getElem.mp hM (N.idxOf x) (N.idxOf y) (by omega) (by omega) lt
  unfold subG
  rw [List.getD_eq_getElem?_getD, List.getD_eq_getElem?_getD, List.getElem?_eq_getElem (by omega), List.getElem?_eq_getElem (by omega)]
  exact this
theorem subG_inj {N M : List Int} (hN : N.Pairwise (· < ·)) (hM : M.Pairwise (· < ·)) (hl : N.length = M.length) : ∀ x ∈ N, ∀ y ∈ N, subG N M x = subG N M y → x = y := by
  intro x hx y hy e
  refine Classical.byContradiction fun c => ?_
  by_cases q : x < y
  · have := subG_lt hN hM hl hx hy q; omega
  · have := subG_lt hN hM hl hy hx (by omega); omega
theorem subG_map {N M : List Int} (hN : N.Nodup) (hl : N.length = M.length) : N.map (subG N M) = M := by
  apply List.ext_getElem (by rw [List.length_map, hl])
  intro i h1 h2
  rw [List.length_map] at h1
  rw [List.getElem_map]
  unfold subG
  rw [hN.idxOf_getElem i h1, List.getD_eq_getElem?_getD, List.getElem?_eq_getElem h2]
  rfl
theorem put_off_ok {N M r : List Int} {T : List (Int × Int)} {w : Pw} (hN : N.Nodup) (hl : N.length = M.length) (hT : ∀ p ∈ T, p.1 ∈ N ∧ p.2 ∈ N) (hr : ∀ x ∈ r, x ∈ N) (lT : T.length ≤ 1000) (lr : r.length ≤ 1000) : F_law_put_off_v3 [.val (.list ((T).map prT)), .val (.list ((r).map .int)), .ob (.dict ((N.map Sum.inl : List Key).zip (M.map PyData.int)))] w = .ok (.val (.tuple [.list ((mapT (subG N M) T).map prT), .list ((r.map (subG N M)).map .int)])) w := by
  obtain ⟨Z, hZ⟩ : ∃ Z, Z = (N.map Sum.inl : List Key).zip (M.map PyData.int) := ⟨_, rfl⟩
  have vz : ∀ x ∈ N, valD Z (.inl x) = some (.int (subG N M x)) := fun x hx => by rw [hZ]; exact valD_zip hN hx hl
  rw [← hZ]
  have s2 : leS 2 := size_le (by omega)
  have e1 : fLc (fLstI (fVar 0)) (bTup 2 (bCons (bName 3) (bCons (bName 4) bNil))) fYes e_law_put_off_v3_1 [3, 4] ⟨[.val (.list ((T).map prT)), .val (.list ((r).map .int)), .ob (.dict Z), .no, .no, .no], w⟩ = .ok (.new (T.map fun p => prT (subG N M p.1, subG N M p.2))) ⟨[.val (.list ((T).map prT)), .val (.list ((r).map .int)), .ob (.dict Z), .no, .no, .no], w⟩ := by
    refine lc_all (fun p : Int × Int => ⟨[.val (.list ((T).map prT)), .val (.list ((r).map .int)), .ob (.dict Z), .val (.int (p.1)), .val (.int (p.2)), .no], w⟩) _ (f := prT) (l := T) (by simp -implicitDefEqProofs) (by omega) rfl (fun a _ => by rfl) (fun a _ => by rfl) (fun p hp => ?_)
    unfold e_law_put_off_v3_1
    simp -implicitDefEqProofs [vz _ (hT p hp).1, vz _ (hT p hp).2, s2, prT]
  have e2 : fLc (fLstI (fVar 1)) (bName 5) fYes e_law_put_off_v3_2 [5] ⟨[.val (.list ((T).map prT)), .val (.list ((r).map .int)), .ob (.dict Z), .no, .no, .no], w⟩ = .ok (.new (r.map fun x => .int (subG N M x))) ⟨[.val (.list ((T).map prT)), .val (.list ((r).map .int)), .ob (.dict Z), .no, .no, .no], w⟩ := by
    refine lc_all (fun x : Int => ⟨[.val (.list ((T).map prT)), .val (.list ((r).map .int)), .ob (.dict Z), .no, .no, .val (.int (x))], w⟩) _ (f := .int) (l := r) (by simp -implicitDefEqProofs) (by omega) rfl (fun a _ => by rfl) (fun a _ => by rfl) (fun p hp => ?_)
    unfold e_law_put_off_v3_2
    simp -implicitDefEqProofs [vz _ (hr p hp)]
  have m1 : (mapT (subG N M) T).map prT = T.map fun p => prT (subG N M p.1, subG N M p.2) := by unfold mapT; rw [List.map_map]; rfl
  have m2 : (r.map (subG N M)).map PyData.int = r.map fun x => .int (subG N M x) := by rw [List.map_map]; rfl
  rw [m1, m2]
  unfold F_law_put_off_v3 p_law_put_off_v3
  simp only [x_runF]
  simp -implicitDefEqProofs [e1, e2, s2]
theorem tree_map {N M : List Int} {T : List (Int × Int)} (hN : N.Pairwise (· < ·)) (hM : M.Pairwise (· < ·)) (hl : N.length = M.length) (h0 : 0 < N.length) (h : TreeP N T) : TreeP M (mapT (subG N M) T) := by
  have nN : N.Nodup := hN.imp fun h => by omega
  have nM : M.Nodup := hM.imp fun h => by omega
  rw [treeP_conn nN h0] at h
  rw [treeP_conn nM (by omega)]
  obtain ⟨h1, h2, h3, h4⟩ := h
  have em := subG_map (M := M) nN hl
  have mg : ∀ x ∈ N, subG N M x ∈ M := fun x hx => by
    have := List.mem_map_of_mem (f := subG N M) hx
    rwa [em] at this
  refine ⟨by unfold mapT; rw [List.length_map]; omega, fun p hp => ?_, ?_, ?_⟩
  · obtain ⟨q, hq, rfl⟩ := List.mem_map.mp hp
    obtain ⟨a, b, c⟩ := h2 q hq
    exact ⟨subG_lt hN hM hl b c a, mg _ b, mg _ c⟩
  · unfold mapT
    rw [List.pairwise_map]
    refine List.Pairwise.imp_of_mem (fun {p q} hp hq l => ?_) h3
    obtain ⟨_, b, c⟩ := h2 p hp
    obtain ⟨_, b', c'⟩ := h2 q hq
    unfold ltP at l ⊢
    rcases l with l | ⟨l1, l2⟩
    · exact .inl (subG_lt hN hM hl b b' l)
    · exact .inr ⟨by rw [l1], subG_lt hN hM hl c c' l2⟩
  · have := (conn_map (subG_inj hN hM hl) (fun p hp => (h2 p hp).2) (S := N) (fun x hx => hx) (x := N.getD 0 0) (getD_mem h0)).mpr h4
    rw [em] at this
    have e0 : subG N M (N.getD 0 0) = M.getD 0 0 := by
      have : (N.map (subG N M)).getD 0 0 = subG N M (N.getD 0 0) := by
        cases N with
        | nil => simp at h0
        | cons x N => rfl
      rw [← this, em]
    rwa [e0] at this
/-! ### refusals -/
theorem genT_has {S : List Int} {T : List (Int × Int)} (h : GenT S T) (h2 : 2 ≤ S.length) {x : Int} (hx : x ∈ S) : ∃ p ∈ T, p.1 = x ∨ p.2 = x := by
  obtain ⟨L, f, hp, hf, _, hm⟩ := genT_mem h
  have ll := hp.length_eq
  obtain ⟨i, hi, e⟩ := List.getElem_of_mem (hp.mem_iff.mpr hx)
  have ei : L.getD i 0 = x := by rw [List.getD_eq_getElem?_getD, List.getElem?_eq_getElem hi]; exact e
  by_cases z : i = 0
  · have f1 := hf 1 (by omega) (by omega)
    have f0 : f 1 = 0 := by omega
    refine ⟨_, (hm _).mpr ⟨1, by omega, by omega, rfl⟩, ?_⟩
    rw [f0]
    subst z
    rcases tieP_ends (L.getD 1 0) (L.getD 0 0) with ⟨_, e2⟩ | ⟨e2, _⟩
    · right; rw [e2, ei]
    · left; rw [e2, ei]
  · refine ⟨_, (hm _).mpr ⟨i, by omega, hi, rfl⟩, ?_⟩
    rcases tieP_ends (L.getD i 0) (L.getD (f i) 0) with ⟨e2, _⟩ | ⟨_, e2⟩
    · left; rw [e2, ei]
    · right; rw [e2, ei]
theorem rankB_memC {ds : List PyData} {x : PyData} (hx : x ∈ ds) (h : isI x = false) : rankB (.list ds) = false := by
  rw [Bool.eq_false_iff]
  intro z
  obtain ⟨ns, e, _⟩ := rankB_some z
  have e := PyData.list.inj e
  rw [e] at hx
  obtain ⟨n, _, rfl⟩ := List.mem_map.mp hx
  cases h
theorem rankB_intsC {M : List Int} (h : ¬ Rank M) : rankB (.list (M.map .int)) = false := by rw [rankB_ints]; exact decide_eq_false h
theorem range11 : rangeD 0 11 = (List.map (fun k : Nat => (k : Int)) (List.range 11)).map PyData.int := by
  unfold rangeD
  rw [List.map_map]
  refine List.map_congr_left fun k _ => ?_
  simp
theorem last_of {N : List Int} (h0 : 0 < N.length) : ∃ K z, N = K ++ [z] := (snoc_of N).resolve_left (by intro e; rw [e] at h0; simp at h0)
theorem strange_ok {N K : List Int} {z : Int} (hs : N.Pairwise (· < ·)) (e : N = K ++ [z]) : (N.drop 1 ++ [z + 1]).Pairwise (· < ·) := by
  rw [List.pairwise_append]
  refine ⟨hs.sublist (List.drop_sublist _ _), List.pairwise_singleton _ _, fun x hx y hy => ?_⟩
  rw [List.mem_singleton] at hy
  subst hy
  have hx := List.mem_of_mem_drop hx
  rw [e] at hx hs
  rcases List.mem_append.mp hx with hx | hx
  · have := (List.pairwise_append.mp hs).2.2 x hx z (by simp); omega
  · rw [List.mem_singleton] at hx; omega
theorem last_max {N K : List Int} {z : Int} (hs : N.Pairwise (· < ·)) (e : N = K ++ [z]) : ∀ x ∈ N, x ≤ z := by
  intro x hx
  rw [e] at hx hs
  rcases List.mem_append.mp hx with hx | hx
  · have := (List.pairwise_append.mp hs).2.2 x hx z (by simp); omega
  · rw [List.mem_singleton] at hx; omega
theorem refused71_ok {pa : Addr} {w : Pw} {m : Int} {N r : List Int} {T : List (Int × Int)} (hp : LP pa w m) (hm : m < 2 ^ 35) (hN : Rank N) (hs : N.Pairwise (· < ·)) (hr : r.Perm N) (hT : TreeP N T) : ∃ w', F_law_refused_v31 [.raw (.ref pa), .val (.list ((N).map .int)), .val (.list ((T).map prT)), .val (.list ((r).map .int))] w = .ok (.val (.bool true)) w' ∧ LP pa w' (m + 6000) := by
  have l10 := hN.2.2.2
  have l0 := hN.2.2.1
  have lr := hr.length_eq
  have rr := hN.perm hr
  have lT := hT.1
  have neg1 : (-1 : Int) ∉ N := fun z => by have := hN.2.1 _ z; omega
  obtain ⟨TD, hTD⟩ : ∃ TD, TD = T.map prT := ⟨_, rfl⟩
  have lTD : TD.length = T.length := by rw [hTD, List.length_map]
  have bTD : ∀ d ∈ TD, bdd 1 d := fun d hd => by
    rw [hTD] at hd
    obtain ⟨p, _, rfl⟩ := List.mem_map.mp hd
    exact bdd_tuple.mpr ⟨by simp, by simp⟩
  -- no ranking
  have c1 : cutD (r.map PyData.int) none (some 1) = (r.take 1).map .int := by rw [cutD_map]; exact congrArg _ (cut_to (k := 1))
  obtain ⟨R1, hR1⟩ : ∃ R1, R1 = r.take 1 := ⟨_, rfl⟩
  have lR1 : R1.length = 1 := by rw [hR1, List.length_take]; omega
  obtain ⟨KR, zr, hKR⟩ := last_of (N := r) (by omega)
  have c2 : cutD (r.map PyData.int) none (some (-1)) = KR.map .int := by rw [cutD_map, hKR, cut_initC]
  have lKR : KR.length ≤ 10 := by have := congrArg List.length hKR; rw [List.length_append] at this; omega
  obtain ⟨E, hE⟩ : ∃ E : List PyData, E = [PyData.none, .list [], .tuple (r.map .int), .list (r.map .int ++ R1.map .int), .list [.bool true], .list (KR.map .int ++ [.int (-1)]), .list (rangeD 0 11), .str (Str.ofString "1"), .list [.none]] := ⟨_, rfl⟩
  have lE : E.length = 9 := by rw [hE]; rfl
  have bE : ∀ d ∈ E, bdd 4 d ∧ rankB d = false := by
    rw [hE]; intro d hd
    simp only [List.mem_cons, List.not_mem_nil, or_false] at hd
    rcases hd with rfl | rfl | rfl | rfl | rfl | rfl | rfl | rfl | rfl
    · exact ⟨by simp, rfl⟩
    · exact ⟨by simp, rankB_intsC (M := []) fun z => by have := z.2.2.1; simp at this⟩
    · exact ⟨bdd_up (n := 1) (by omega) (bdd_tuple.mpr ⟨by rw [List.length_map]; omega, by simp⟩), rfl⟩
    · rw [← List.map_append]
      refine ⟨bdd_intsC (by rw [List.length_append]; omega), rankB_intsC fun z => ?_⟩
      obtain ⟨x, hx⟩ : ∃ x, R1 = [x] := List.length_eq_one_iff.mp lR1
      have mx : x ∈ r := List.mem_of_mem_take (i := 1) (by rw [← hR1, hx]; simp)
      exact (List.nodup_append.mp z.1).2.2 x mx x (by rw [hx]; simp) rfl
    · exact ⟨by simp, rankB_memC (x := .bool true) (by simp) rfl⟩
    · have e : KR.map PyData.int ++ [.int (-1)] = (KR ++ [-1]).map .int := by simp
      rw [e]
      exact ⟨bdd_intsC (by rw [List.length_append, List.length_singleton]; omega), rankB_intsC fun z => by have := z.2.1 (-1) (by simp); omega⟩
    · rw [range11]
      exact ⟨bdd_intsC (by simp), rankB_intsC fun h => by have := h.2.2.2; simp at this⟩
    · exact ⟨by simp, rfl⟩
    · exact ⟨by simp, rankB_memC (x := .none) (by simp) rfl⟩
  obtain ⟨j, d, w1, e1, hj, ed, md, q1⟩ := draw_atC (xs := E) hp (by omega) (by omega) (by omega)
  have aj : atI E (j : Int) = some d := by rw [atI_nat, ed]
  have lE' : ((E.length : Nat) : Int) = 9 := by omega
  rw [lE'] at e1
  obtain ⟨bd, nd⟩ := bE d md
  -- another tree
  obtain ⟨K, z, hK⟩ := last_of l0
  have az : atI (N.map PyData.int) (-1) = some (.int z) := by rw [atI_mapF, hK]; exact congrArg (Option.map PyData.int) (atI_last _ _)
  obtain ⟨n0, hn0⟩ : ∃ n0, n0 = N.getD 0 0 := ⟨_, rfl⟩
  have a0 : (N.map PyData.int)[0]? = some (.int n0) := by
    rw [hn0, List.getElem?_map, List.getD_eq_getElem?_getD, List.getElem?_eq_getElem l0]; rfl
  have n0e : N[0]'l0 = n0 := by rw [hn0, List.getD_eq_getElem?_getD, List.getElem?_eq_getElem l0]; rfl
  have cN : cutD (N.map PyData.int) (some 1) none = (N.drop 1).map .int := by rw [cutD_map]; exact congrArg _ (cut_from (k := 1))
  obtain ⟨S, hS⟩ : ∃ S, S = N.drop 1 ++ [z + 1] := ⟨_, rfl⟩
  have sS : S.Pairwise (· < ·) := by rw [hS]; exact strange_ok hs hK
  have lS : S.length = N.length := by rw [hS, List.length_append, List.length_drop, List.length_singleton]; omega
  have eS : sortI S = S := sortI_rise sS
  have emS : (N.drop 1).map PyData.int ++ [.int (z + 1)] = S.map .int := by rw [hS]; simp
  obtain ⟨N1, hN1⟩ : ∃ N1, N1 = (N.drop 1).map PyData.int := ⟨_, rfl⟩
  have lN1 : N1.length ≤ 10 := by rw [hN1, List.length_map, List.length_drop]; omega
  rw [← hN1] at cN emS
  obtain ⟨T2, w2, e2, hT2, q2⟩ := tree_ok (N := S) q1 (by omega) (by omega) (by omega)
  have lT2 : T2.length ≤ 10 := by
    obtain ⟨L, f, hp, _, e, _⟩ := genT_mem hT2
    have := hp.length_eq
    omega
  obtain ⟨O, hO⟩ : ∃ O : List PyData, O = [PyData.none, .tuple [], .tuple TD, .list (TD ++ [.tuple [.int 0, .int 1]]), .str (Str.ofString "tree"), .int 7, .list (TD ++ [.list TD]), .list [.list []], .list (T2.map prT)] := ⟨_, rfl⟩
  have lO : O.length = 9 := by rw [hO]; rfl
  -- what is no tree
  obtain ⟨O2, hO2, bO⟩ : ∃ O2 : List PyData, O2 = (if N.length = 1 then [PyData.none, .tuple []] ++ [.list [.tuple [.int n0, .int n0]], .str (Str.ofString "tree")] else O) ∧ ∀ d ∈ O2, bdd 4 d ∧ treeB N d = false := by
    refine ⟨_, rfl, ?_⟩
    intro d hd
    by_cases q : N.length = 1
    · rw [if_pos q] at hd
      simp only [List.cons_append, List.nil_append, List.mem_cons, List.not_mem_nil, or_false] at hd
      rcases hd with rfl | rfl | rfl | rfl
      · exact ⟨by simp, rfl⟩
      · exact ⟨by simp, rfl⟩
      · exact ⟨by simp, treeB_no (.inl (by simp; omega))⟩
      · exact ⟨by simp, rfl⟩
    · rw [if_neg q, hO] at hd
      simp only [List.mem_cons, List.not_mem_nil, or_false] at hd
      rcases hd with rfl | rfl | rfl | rfl | rfl | rfl | rfl | rfl | rfl
      · exact ⟨by simp, rfl⟩
      · exact ⟨by simp, rfl⟩
      · exact ⟨bdd_up (n := 2) (by omega) (bdd_tuple.mpr ⟨by omega, bTD⟩), rfl⟩
      · refine ⟨bdd_up (n := 2) (by omega) (bdd_list.mpr ⟨by simp; omega, fun d hd => ?_⟩), treeB_no (.inl (by simp; omega))⟩
        rcases List.mem_append.mp hd with hd | hd
        · exact bTD d hd
        · rw [List.mem_singleton] at hd; rw [hd]; simp
      · exact ⟨by simp, rfl⟩
      · exact ⟨by simp, rfl⟩
      · refine ⟨bdd_up (n := 3) (by omega) (bdd_list.mpr ⟨by simp; omega, fun d hd => ?_⟩), treeB_no (.inl (by simp; omega))⟩
        rcases List.mem_append.mp hd with hd | hd
        · exact bdd_up (n := 1) (by omega) (bTD d hd)
        · rw [List.mem_singleton] at hd; rw [hd]; exact bdd_list.mpr ⟨by omega, bTD⟩
      · exact ⟨by simp, treeB_no (.inr (by simp [tieB]))⟩
      · refine ⟨bdd_up (n := 2) (by omega) (bdd_list.mpr ⟨by rw [List.length_map]; omega, fun d hd => ?_⟩), ?_⟩
        · obtain ⟨p, _, rfl⟩ := List.mem_map.mp hd
          exact bdd_tuple.mpr ⟨by simp, by simp⟩
        · rw [treeB_map]
          refine decide_eq_false fun h => ?_
          obtain ⟨p, hp, e⟩ := genT_has hT2 (by omega) (x := z + 1) (by rw [hS]; simp)
          obtain ⟨_, b, c⟩ := h.2.1 p hp
          have mz := last_max hs hK
          rcases e with e | e
          · rw [e] at b; have := mz _ b; omega
          · rw [e] at c; have := mz _ c; omega
  have lO2 : 0 < O2.length ∧ O2.length ≤ 9 := by
    rw [hO2]; split
    · simp
    · omega
  obtain ⟨i, b, w3, e3, hi, eb, mb, q3⟩ := draw_atC (xs := O2) q2 (by omega) (by omega) (by omega)
  have ai : atI O2 (i : Int) = some b := by rw [atI_nat, eb]
  obtain ⟨bb, nb⟩ := bO b mb
  have bT : bdd 4 (.list TD) := bdd_up (n := 2) (by omega) (bdd_list.mpr ⟨by omega, bTD⟩)
  have n1 : ∀ w, F_law_told_v25 [.val (.list TD), .val d] w = .ok (.new [.str "NoRanking"]) w := fun w => told71_err (.inl rfl) bT bd fun w => fapart_rank (bdd_len bd) nd
  have n2 : ∀ w, F_law_told_v25 [.val b, .val d] w = .ok (.new [.str "NoRanking"]) w := fun w => told71_err (.inl rfl) bb bd fun w => fapart_rank (bdd_len bd) nd
  have n3 : ∀ w, F_law_told_v25 [.val b, .val (.list ((r).map .int))] w = .ok (.new [.str "NoTree"]) w := fun w => told71_err (.inr rfl) bb (bdd_up (n := 1) (by omega) (bdd_intsC (by omega))) fun w => fapart_tree hN hs hr (bdd_len bb) nb
  have eq1 : eqO (.list [.str (Str.ofString "NoTree")]) (.list [.str (Str.ofString "NoTree")]) = some (.val (.bool true)) := eqO_same (n := 1) (by simp) (by omega)
  have ne1 : neO (.list [.str (Str.ofString "NoRanking")]) (.list [.str (Str.ofString "NoRanking")]) = some (.val (.bool false)) := neO_self (n := 1) (by simp) (by omega)
  have s0 : leS 0 := size_le (by omega)
  have s1 : leS 1 := size_le (by omega)
  have s2 : leS 2 := size_le (by omega)
  have s4 : leS 4 := size_le (by omega)
  have sE : leS E.length := size_le (by omega)
  have sO : leS O.length := size_le (by omega)
  have t1 : leS (r.length + R1.length) := size_le (by omega)
  have t2 : leS (KR.length + 1) := size_le (by omega)
  have t3 : leS (TD.length + 1) := size_le (by omega)
  have t4 : leS (N1.length + 1) := size_le (by omega)
  refine ⟨w3, ?_, q3.mono (by omega)⟩
  rw [← hTD]
  unfold F_law_refused_v31 p_law_refused_v31
  simp only [x_runF]
  by_cases q : N.length = 1
  · have cO : cutD O none (some 2) = [PyData.none, .tuple []] := by
      have := cutD_map (f := id) (xs := O) (lo := none) (hi := some ((2 : Nat) : Int))
      rw [List.map_id, List.map_id, cut_to] at this
      rw [hO] at this ⊢
      exact this
    rw [if_pos q] at hO2
    have lO4 : O2.length = 4 := by rw [hO2]; rfl
    rw [lO4] at e3
    have e3 : F_law_draw_v3 [.raw (.ref pa), .val (.int (4))] w2 = _ := e3
    simp only [List.cons_append, List.nil_append] at hO2
    have q' : ((N.length : Int) = 1) = True := eq_true (by omega)
    simp -implicitDefEqProofs [c1, ← hR1, c2, s0, s1, s2, t1, t2, ← hE, sE, lE', e1, aj, cN, az, t4, emS, eS, e2, t3, ← hO, sO, q', q, a0, n0e, cO, s4, ← hO2, lO4, e3, ai, n1, n2, n3, ne1, eq1]
  · rw [if_neg q] at hO2
    subst hO2
    have lO' : ((O2.length : Nat) : Int) = 9 := by omega
    rw [lO'] at e3
    have q' : ((N.length : Int) = 1) = False := eq_false (by omega)
    simp -implicitDefEqProofs [c1, ← hR1, c2, s0, s1, s2, t1, t2, ← hE, sE, lE', e1, aj, cN, az, t4, emS, eS, e2, t3, ← hO, sO, q', q, lO', e3, ai, n1, n2, n3, ne1, eq1]
/-! ### the law -/
theorem turn71 {pa : Addr} {ns N M r : List Int} {c : Int} {T : List (Int × Int)} {ss : List (List Int)} {w : Pw} {s8 s9 s10 s11 : Sl} (hN : Rank N) (hs : N.Pairwise (· < ·)) (hM : M.Pairwise (· < ·)) (pM : ∀ x ∈ M, 0 ≤ x) (hl : N.length = M.length) (hT : TreeP N T) (hss : ∀ s ∈ ss, s.Perm N) (v6 v7 : Sl) : ∃ u8 u9 u10 u11, loopF (bName 9) b_law_k71_1 (ss.map llD) ⟨[.ob (.scr ns), .val (.int (c)), .raw (.ref pa), .val (.list ((N).map .int)), .ob (.dict ((N.map Sum.inl : List Key).zip (M.map PyData.int))), .val (.list (T.map prT)), v6, v7, s8, s9, s10, s11], w⟩ = .next ⟨[.ob (.scr ns), .val (.int (c)), .raw (.ref pa), .val (.list ((N).map .int)), .ob (.dict ((N.map Sum.inl : List Key).zip (M.map PyData.int))), .val (.list (T.map prT)), v6, v7, u8, u9, u10, u11], w⟩ := by
  have l10 := hN.2.2.2
  have l0 := hN.2.2.1
  have lT := hT.1
  have hMr : Rank M := ⟨hM.imp fun h => by omega, pM, by omega, by omega⟩
  have hT2 := tree_map hs hM hl l0 hT
  obtain ⟨Z, hZ⟩ : ∃ Z, Z = (N.map Sum.inl : List Key).zip (M.map PyData.int) := ⟨_, rfl⟩
  obtain ⟨s', e, u8, u9, u10, u11, rfl⟩ := loopN (b := bName 9) (p := b_law_k71_1) (f := llD) (l := ss) (s := ⟨[.ob (.scr ns), .val (.int (c)), .raw (.ref pa), .val (.list ((N).map .int)), .ob (.dict Z), .val (.list (T.map prT)), v6, v7, s8, s9, s10, s11], w⟩)
    (fun i s => ∃ u8 u9 u10 u11, s = ⟨[.ob (.scr ns), .val (.int (c)), .raw (.ref pa), .val (.list ((N).map .int)), .ob (.dict Z), .val (.list (T.map prT)), v6, v7, u8, u9, u10, u11], w⟩) ⟨_, _, _, _, rfl⟩ (by
      rintro i s st hi hm ⟨u8, u9, u10, u11, rfl⟩
      have ps := hss s hm
      have ls := ps.length_eq
      have e1 := lapart_ok (T := T) (r := s) (w := w) (by omega)
      have e2 := put_off_ok (N := N) (M := M) (r := s) (T := T) (w := w) hN.1 hl (fun p hp => (hT.2.1 p hp).2) (fun x hx => ps.mem_iff.mp hx) (by omega) (by omega)
      have nx := noi_apr (T := T) (r := s)
      have bT : bdd 4 (.list (T.map prT)) := bdd_up (n := 2) (by omega) (bdd_list.mpr ⟨by rw [List.length_map]; omega, fun d hd => by
        obtain ⟨p, _, rfl⟩ := List.mem_map.mp hd
        exact bdd_tuple.mpr ⟨by simp, by simp⟩⟩)
      have bT2 : bdd 4 (.list ((mapT (subG N M) T).map prT)) := bdd_up (n := 2) (by omega) (bdd_list.mpr ⟨by rw [List.length_map]; unfold mapT; rw [List.length_map]; omega, fun d hd => by
        obtain ⟨p, _, rfl⟩ := List.mem_map.mp hd
        exact bdd_tuple.mpr ⟨by simp, by simp⟩⟩)
      have e3 := told71_ok (w := w) nx bT (bdd_intsC (by omega)) (fun w => fapart_ok (w := w) hN hs ps hT)
      have pm : (s.map (subG N M)).Perm M := by
        have := ps.map (subG N M)
        rwa [subG_map hN.1 hl] at this
      have ea := apr_map (subG_inj hs hM hl) (fun p hp => (hT.2.1 p hp).2) (ps.nodup_iff.mpr hN.1) (fun x hx => ps.mem_iff.mp hx)
      have e4 := told71_ok (w := w) nx bT2 (bdd_intsC (l := s.map (subG N M)) (by rw [List.length_map]; omega)) (fun w => by
        have := fapart_ok (w := w) hMr hM pm hT2
        rw [ea] at this
        exact this)
      have en : neO (aprD T s) (aprD T s) = some (.val (.bool false)) := neO_self (n := 0) (by rcases nx with e | ⟨i, e⟩ <;> rw [e] <;> simp) (by omega)
      obtain ⟨x, hx⟩ : ∃ x, x = aprD T s := ⟨_, rfl⟩
      obtain ⟨D, hD⟩ : ∃ D, D = T.map prT := ⟨_, rfl⟩
      obtain ⟨D2, hD2⟩ : ∃ D2, D2 = (mapT (subG N M) T).map prT := ⟨_, rfl⟩
      obtain ⟨S2, hS2⟩ : ∃ S2, S2 = (s.map (subG N M)).map PyData.int := ⟨_, rfl⟩
      rw [← hx, ← hD] at e1 e3
      rw [← hx, ← hD2, ← hS2] at e4
      rw [← hD, ← hD2, ← hS2, ← hZ] at e2
      rw [← hx] at en
      rw [← hD]
      unfold b_law_k71_1
      simp -implicitDefEqProofs [llD, e1, e2, e3, e4, en])
  rw [← hZ]
  exact ⟨u8, u9, u10, u11, e⟩
theorem drop2 {r : List Int} {k : Nat} : cutI r (some ((k : Int) + 2)) none = r.drop (k + 2) := by
  rw [show ((k : Int) + 2) = ((k + 2 : Nat) : Int) by omega, cut_from]
theorem law_k71_ok : LawOkS 12 p_law_k71 := by
  intro ns hl
  have good : goodW (bName 1) 2 (fUser F_law_left (fCons (fVar 1) fNil)) b_law_k71_2 ((5 :: ns.take 5).map .int) ⟨[.ob (.scr ns), .no, .no, .no, .no, .no, .no, .no, .no, .no, .no, .no], none⟩ := by
    refine ⟨rfl, by simp [clearZ], fun d hd => ?_⟩
    obtain ⟨c, hc, rfl⟩ := List.mem_map.mp hd
    obtain ⟨n, g, el, n0, n1⟩ := left_ok (c := c) (w := none)
    refine ⟨⟨[.ob (.scr ns), .val (.int (c)), .no, .no, .no, .no, .no, .no, .no, .no, .no, .no], none⟩, ⟨[.ob (.scr ns), .val (.int (c)), .no, .no, .no, .no, .no, .no, .no, .no, .no, .no], none⟩, [n, g, 0], rfl, by simp -implicitDefEqProofs [el], rfl, by simp, fun pa => ?_⟩
    have lp : LP pa (some (pa, pa, [n, g, 0], 0)) 0 := ⟨n, g, 0, rfl, n0, n1, by omega, by omega⟩
    obtain ⟨m, w1, e1, m1, q1⟩ := draw_lit (b := 10) lp (by omega) (by omega) (by omega)
    obtain ⟨N, w2, e2, lN, sN, pN, q2⟩ := names6_ok (n := 1 + m) q1 (by omega) (by omega)
    have hN : Rank N := ⟨sN.imp fun h => by omega, fun x hx => (pN x hx).1, by omega, by omega⟩
    have l10 := hN.2.2.2
    obtain ⟨M, w3, e3, lM, sM, pM, q3⟩ := names6_ok (n := N.length) q2 (by omega) (by omega)
    obtain ⟨T, w4, e4, hT, q4⟩ := tree_ok q3 (by omega) hN.2.2.1 (by omega)
    have tT := genT_tree hN.1 hN.2.2.1 hT
    obtain ⟨r, w5, e5, pr, fr, q5⟩ := falling_ok q4 (by omega) hN.1 hN.2.2.1 (by omega) hT
    have lr := pr.length_eq
    have nr : r.Nodup := pr.nodup_iff.mpr hN.1
    have lT := tT.1
    have em : ((1 + m : Nat) : Int) = (1 : Int) + (m : Int) := by omega
    rw [em] at e2
    have bT : bdd 4 (.list (T.map prT)) := bdd_up (n := 2) (by omega) (bdd_list.mpr ⟨by rw [List.length_map]; omega, fun d hd => by
      obtain ⟨p, _, rfl⟩ := List.mem_map.mp hd
      exact bdd_tuple.mpr ⟨by simp, by simp⟩⟩)
    have e6 := told71_ok (x := .none) (w := w5) (.inl rfl) bT (bdd_intsC (l := r) (by omega)) (fun w => by
      have := fapart_ok (w := w) hN sN pr tT
      rw [fal_apr nr fr] at this
      exact this)
    -- another ranking
    obtain ⟨o, v7, v8, w6, e7, po, q6, ho⟩ : ∃ (o : List Int) (v7 v8 : Sl) (w6 : Pw), (fIfS (fB (fOp (lift2 gtO) (fCall lenO (pCons (fVar 3) fNil)) (fC (.int 1)))) (fseq (fSet 8 (fUser F_law_draw_v3 (fCons (fVar 2) (fCons (fOp (lift2 subO) (fCall lenO (pCons (fVar 3) fNil)) (fC (.int 1))) fNil)))) (fSet 7 (fOp (lift2 addO) (fOp (lift2 addO) (fSlice (fVar 6) fNoPart (fPart (fVar 8))) (fLst (fCons (fOp (lift2 ixO) (fVar 6) (fOp (lift2 addO) (fVar 8) (fC (.int 1)))) (fCons (fOp (lift2 ixO) (fVar 6) (fVar 8)) fNil)))) (fSlice (fVar 6) (fPart (fOp (lift2 addO) (fVar 8) (fC (.int 2)))) fNoPart)))) fnext) ⟨[.ob (.scr ns), .val (.int (c)), .raw (.ref pa), .val (.list ((N).map .int)), .ob (.dict ((N.map Sum.inl : List Key).zip (M.map PyData.int))), .val (.list (T.map prT)), .val (.list ((r).map .int)), .own (r.map .int), .no, .no, .no, .no], w5⟩ = .next ⟨[.ob (.scr ns), .val (.int (c)), .raw (.ref pa), .val (.list ((N).map .int)), .ob (.dict ((N.map Sum.inl : List Key).zip (M.map PyData.int))), .val (.list (T.map prT)), .val (.list ((r).map .int)), v7, v8, .no, .no, .no], w6⟩ ∧ o.Perm N ∧ LP pa w6 (0 + 50000) ∧ v7 = .own (o.map .int) := by
      obtain ⟨Z, hZ⟩ : ∃ Z, Z = (N.map Sum.inl : List Key).zip (M.map PyData.int) := ⟨_, rfl⟩
      obtain ⟨D, hD⟩ : ∃ D, D = T.map prT := ⟨_, rfl⟩
      rw [← hZ, ← hD]
      by_cases q : 1 < N.length
      · obtain ⟨k, w6, e7, k1, q6⟩ := draw_lit (b := (N.length : Int) - 1) q5 (by omega) (by omega) (by omega)
        have hk : k + 1 < r.length := by omega
        have a1 : atI (r.map PyData.int) ((k : Int) + 1) = some (.int r[k+1]) := by
          rw [show ((k : Int) + 1) = ((k + 1 : Nat) : Int) by omega, atI_nat, List.getElem?_map, List.getElem?_eq_getElem hk]; rfl
        have a2 : atI (r.map PyData.int) (k : Int) = some (.int r[k]) := by
          rw [atI_nat, List.getElem?_map, List.getElem?_eq_getElem (show k < r.length by omega)]; rfl
        have cA : cutD (r.map PyData.int) none (some (k : Int)) = (r.take k).map .int := by rw [cutD_map, cut_to]
        have cB : cutD (r.map PyData.int) (some ((k : Int) + 2)) none = (r.drop (k + 2)).map .int := by rw [cutD_map, drop2]
        obtain ⟨u, hu⟩ : ∃ u, u = r[k+1] := ⟨_, rfl⟩
        obtain ⟨v, hv⟩ : ∃ v, v = r[k] := ⟨_, rfl⟩
        have h1 := List.drop_eq_getElem_cons (show k < r.length by omega)
        have h2 := List.drop_eq_getElem_cons hk
        have er : r = r.take k ++ v :: u :: r.drop (k + 2) := by
          rw [hu, hv, ← h2, ← h1, List.take_append_drop]
        obtain ⟨A, hA⟩ : ∃ A, A = r.take k := ⟨_, rfl⟩
        obtain ⟨B, hB⟩ : ∃ B, B = r.drop (k + 2) := ⟨_, rfl⟩
        rw [← hu] at a1
        rw [← hv] at a2
        rw [← hA] at cA er
        rw [← hB] at cB er
        have lA : A.length ≤ 10 := by rw [hA, List.length_take]; omega
        have lB : B.length ≤ 10 := by rw [hB, List.length_drop]; omega
        have s2 : leS 2 := size_le (by omega)
        have t1 : leS (A.length + 2) := size_le (by omega)
        have t2 : leS (A.length + 2 + B.length) := size_le (by omega)
        have q' : ((1 : Int) < (N.length : Int)) = True := eq_true (by omega)
        refine ⟨A ++ u :: v :: B, .own ((A ++ u :: v :: B).map .int), .val (.int ((k : Nat) : Int)), w6, ?_, ?_, q6.mono (by omega), rfl⟩
        · simp -implicitDefEqProofs [q', e7, a1, a2, cA, cB, s2, t1, t2]
        · refine List.Perm.trans ?_ pr
          conv => rhs; rw [er]
          exact List.Perm.append_left _ (List.Perm.swap _ _ _)
      · have q' : ((1 : Int) < (N.length : Int)) = False := eq_false (by omega)
        exact ⟨r, .own (r.map .int), .no, w5, by simp -implicitDefEqProofs [q'], pr, q5.mono (by omega), rfl⟩
    obtain ⟨x, w7, e8, px, q7⟩ := shuffled3_ok (N := N) q6 (by omega) (by omega)
    obtain ⟨u8, u9, u10, u11, e9⟩ := turn71 (pa := pa) (ns := ns) (c := c) (ss := [o, x]) (w := w7) (s8 := v8) (s9 := .no) (s10 := .no) (s11 := .no) (r := r) hN sN sM (fun x hx => (pM x hx).1) (by omega) tT (by
      intro s hs
      simp only [List.mem_cons, List.not_mem_nil, or_false] at hs
      rcases hs with rfl | rfl
      · exact po
      · exact px) (.val (.list ((r).map .int))) (.val (.list ((o).map .int)))
    obtain ⟨w8, e10, q8⟩ := refused71_ok q7 (by omega) hN sN pr tT
    have nk : nodupK (N.map Sum.inl : List Key) N.length M.length := ⟨nodup_mapC hN.1 fun x _ y _ e => Sum.inl.inj e, by omega⟩
    have ek := keys_ints (N := N)
    obtain ⟨IF, hIF⟩ : ∃ p : DSt → Flow, p = fIfS (fB (fOp (lift2 gtO) (fCall lenO (pCons (fVar 3) fNil)) (fC (.int 1)))) (fseq (fSet 8 (fUser F_law_draw_v3 (fCons (fVar 2) (fCons (fOp (lift2 subO) (fCall lenO (pCons (fVar 3) fNil)) (fC (.int 1))) fNil)))) (fSet 7 (fOp (lift2 addO) (fOp (lift2 addO) (fSlice (fVar 6) fNoPart (fPart (fVar 8))) (fLst (fCons (fOp (lift2 ixO) (fVar 6) (fOp (lift2 addO) (fVar 8) (fC (.int 1)))) (fCons (fOp (lift2 ixO) (fVar 6) (fVar 8)) fNil)))) (fSlice (fVar 6) (fPart (fOp (lift2 addO) (fVar 8) (fC (.int 2)))) fNoPart)))) fnext := ⟨_, rfl⟩
    rw [← hIF] at e7
    subst ho
    obtain ⟨Z, hZ⟩ : ∃ Z, Z = (N.map Sum.inl : List Key).zip (M.map PyData.int) := ⟨_, rfl⟩
    obtain ⟨D, hD⟩ : ∃ D, D = T.map prT := ⟨_, rfl⟩
    obtain ⟨NK, hNK⟩ : ∃ NK, NK = (N.map Sum.inl : List Key) := ⟨_, rfl⟩
    rw [← hZ, ← hD] at e7 e9
    rw [← hD] at e4 e5 e6 e10
    rw [← hNK] at nk ek hZ
    have nk' : nodupK NK N.length M.length := nk
    have sl : ((N.map PyData.int).length : Int) = (N.length : Int) := by rw [List.length_map]
    have s2 : leS 2 := size_le (by omega)
    simp only [List.map_cons, List.map_nil, llD] at e9
    show Nx (b_law_k71_2 ⟨[.ob (.scr ns), .val (.int (c)), .raw (.ref pa), .no, .no, .no, .no, .no, .no, .no, .no, .no], some (pa, pa, [n, g, 0], 0)⟩) (fun s6 => keepZ [.ob (.scr ns), .no, .no, .no, .no, .no, .no, .no, .no, .no, .no, .no] s6.d)
    unfold b_law_k71_2
    rw [← hIF]
    simp -implicitDefEqProofs [e1, e2, e3, ek, nk', ← hZ, e4, e5, e6, e7, e8, s2, e9, e10, keepZ]
  have s1 : leS 1 := size_le (by omega)
  have s7 : leS (1 + (ns.take 5).length) := size_le (by rw [List.length_take]; omega)
  have e := y_kForW good
  obtain ⟨Z, hZ⟩ : ∃ Z, Z = ns.take 5 := ⟨_, rfl⟩
  rw [← hZ] at e s7
  rw [List.map_cons] at e
  unfold p_law_k71
  simp -implicitDefEqProofs [s1, s7, ← hZ, e]

end DL

noncomputable section
namespace DL
open PySem L2 PyProof.Rows
open Evl (Ex)
namespace K71
def top (i : Nat) : Stmt := PySem.Challenge.pw_ontheline_k71_whole_rankings_on_trees.main.body.getD i (.Pass ⟨0, 0, 0, 0⟩)
structure Txt (K : PySem.W.Frag) (mg : Str → Option Value) : Prop where
  b_isinstance : mg "isinstance" = none
  b_int : mg "int" = none
  b_bool : mg "bool" = none
  b_len : mg "len" = none
  b_list : mg "list" = none
  b_all : mg "all" = none
  b_set : mg "set" = none
  b_tuple : mg "tuple" = none
  b_sorted : mg "sorted" = none
  b_range : mg "range" = none
  b_min : mg "min" = none
  b_max : mg "max" = none
  b_ValueError : mg "ValueError" = none
  b_zip : mg "zip" = none
  b_dict : mg "dict" = none
  exc : ExFs K mg ["NoRanking", "NoTree"]
  exy_NoBack : ExY K mg ["NoRanking", "NoTree"] "NoBack"
  exy_NoFall : ExY K mg ["NoRanking", "NoTree"] "NoFall"
  exy_NoFit : ExY K mg ["NoRanking", "NoTree"] "NoFit"
  exy_NoFixed : ExY K mg ["NoRanking", "NoTree"] "NoFixed"
  exy_NoFolk : ExY K mg ["NoRanking", "NoTree"] "NoFolk"
  exy_NoHand : ExY K mg ["NoRanking", "NoTree"] "NoHand"
  exy_NoLine : ExY K mg ["NoRanking", "NoTree"] "NoLine"
  exy_NoNames : ExY K mg ["NoRanking", "NoTree"] "NoNames"
  exy_NoNumber : ExY K mg ["NoRanking", "NoTree"] "NoNumber"
  exy_NoPaper : ExY K mg ["NoRanking", "NoTree"] "NoPaper"
  exy_NoRow : ExY K mg ["NoRanking", "NoTree"] "NoRow"
  exy_NoRule : ExY K mg ["NoRanking", "NoTree"] "NoRule"
  exy_NoText : ExY K mg ["NoRanking", "NoTree"] "NoText"
  exy_NoTitle : ExY K mg ["NoRanking", "NoTree"] "NoTitle"
  exy_NoTops : ExY K mg ["NoRanking", "NoTree"] "NoTops"
  exy_NoWeights : ExY K mg ["NoRanking", "NoTree"] "NoWeights"
  exy_TooGreat : ExY K mg ["NoRanking", "NoTree"] "TooGreat"
  c_MOST_NAMES : ∃ t, mg "MOST_NAMES" = some (.int 10 t)
  d_is_number : Wr K mg "is_number" (top 23) ["thing"]
  d_are_unlike_names : Wr K mg "are_unlike_names" (top 24) ["thing"]
  d_is_ranking : Wr K mg "is_ranking" (top 25) ["thing"]
  d_must_be_ranking : Wr K mg "must_be_ranking" (top 26) ["ranking"]
  d_is_tie : Wr K mg "is_tie" (top 28) ["names", "thing"]
  d_reached : Wr K mg "reached" (top 29) ["ties", "some", "first"]
  d_hang_together : Wr K mg "hang_together" (top 30) ["ties", "some"]
  d_is_right_tree : Wr K mg "is_right_tree" (top 31) ["names", "thing"]
  d_must_be_tree : Wr K mg "must_be_tree" (top 32) ["names", "tree"]
  d_apart_at : Wr K mg "apart_at" (top 33) ["tree", "ranking"]
  d_first_apart : Wr K mg "first_apart" (top 34) ["tree", "ranking"]
  d__law_mix : Wr K mg "_law_mix" (top 36) ["_law_number", "_law_k"]
  d__law_left : Wr K mg "_law_left" (top 37) ["_law_cell"]
  d__law_draw : Wr K mg "_law_draw" (top 38) ["_law_left_here", "_law_base"]
  d__law_names : Wr K mg "_law_names" (top 39) ["_law_left_here", "_law_many"]
  d__law_shuffled : Wr K mg "_law_shuffled" (top 40) ["_law_left_here", "_law_things"]
  d__law_tree : Wr K mg "_law_tree" (top 41) ["_law_left_here", "_law_names_here"]
  d__law_falling : Wr K mg "_law_falling" (top 42) ["_law_left_here", "_law_names_here", "_law_tree_here"]
  d__law_together : Wr K mg "_law_together" (top 43) ["_law_tree_here", "_law_some"]
  d__law_apart : Wr K mg "_law_apart" (top 44) ["_law_tree_here", "_law_ranking"]
  d__law_marks : Wr K mg "_law_marks" (top 45) ["_law_caught"]
  d__law_copied : Wr K mg "_law_copied" (top 46) ["_law_thing"]
  d__law_told : Wr K mg "_law_told" (top 47) ["_law_tree_here", "_law_ranking"]
  d__law_put_off : Wr K mg "_law_put_off" (top 48) ["_law_tree_here", "_law_ranking", "_law_turned"]
  d__law_refused : Wr K mg "_law_refused" (top 49) ["_law_left_here", "_law_names_here", "_law_tree_here", "_law_ranking"]
section
variable {P : Program} {w : World} {K : PySem.W.Frag} {mg : Str → Option Value} {base : Heap} {cl : String → Addr}
abbrev N_is_number : List Str := ["thing"]
theorem sc_is_number : FnScope N_is_number ["thing"] (defScope (top 23)) := ⟨rfl, rfl, rfl, by decide +kernel, rfl, by decide +kernel, by decide +kernel⟩
theorem w_is_number (T : Txt K mg) : Cal P w K mg base (clOf K) "is_number" 1 ["thing"] F_is_number := by
  have sc := sc_is_number
  refine cal_of T.d_is_number sc (by decide) fun f cdv A outer s H E hr => ?_
  have tk : Takes (cxOf (L2.CX P w) P w K mg base N_is_number "is_number" (defScope (top 23)) f cdv A outer s H E) (fun cls d _ H => E cls d H) := takes_of rfl rfl rfl rfl
  exact ss_one (s_ret (v_and (d_isi (m := "int") (by decide) rfl T.b_isinstance (d_var 0) (pe_bltn rfl T.b_int (by decide +kernel) rfl)) (v_one (v_not (d_isi (m := "bool") (by decide) rfl T.b_isinstance (d_var 0) (pe_bltn rfl T.b_bool (by decide +kernel) rfl))))))
abbrev N_are_unlike_names : List Str := ["thing", "name"]
theorem sc_are_unlike_names : FnScope N_are_unlike_names ["thing"] (defScope (top 24)) := ⟨rfl, rfl, rfl, by decide +kernel, rfl, by decide +kernel, by decide +kernel⟩
theorem w_are_unlike_names (T : Txt K mg)
    (c_is_number : Cal P w K mg base (clOf K) "is_number" 1 ["thing"] F_is_number) : Cal P w K mg base (clOf K) "are_unlike_names" 2 ["thing"] F_are_unlike_names := by
  have sc := sc_are_unlike_names
  refine cal_of T.d_are_unlike_names sc (by decide) fun f cdv A outer s H E hr => ?_
  have tk : Takes (cxOf (L2.CX P w) P w K mg base N_are_unlike_names "are_unlike_names" (defScope (top 24)) f cdv A outer s H E) (fun cls d _ H => E cls d H) := takes_of rfl rfl rfl rfl
  exact ss_cons (s_if (d_tw (w_or (d_tnot (d_tval (d_isi (m := "list") (by decide) rfl T.b_isinstance (d_var 0) (pe_bltn rfl T.b_list (by decide +kernel) rfl)))) (w_or1 (d_tnot (d_tval (d_callB (cr_all rfl) cd_all rfl T.b_all (by decide +kernel) (ap_cons (d_lc rfl sc.nd (own := [("name", 1)]) (i_list (d_var 0)) (blkOk_by (own := [("name", 1)]) (N := N_are_unlike_names) (sc := defScope (top 24)) (by decide +kernel)) (g_name 1) (by decide) (fun _ _ _ _ _ => pg_name (i := 1) sc.nd rfl (by first | exact Or.inl rfl | exact Or.inr rfl)) (fun _ _ _ _ _ => dts_nil) (fun _ _ _ _ _ => v_and (d_cal c_is_number (hr.mono (by decide)) passA0 (ae_cons (d_var 1) ae_nil)) (v_one (d_ge (d_var 1) d_int)))) ap_nil))))))) (ss_one (s_ret d_bl)) ss_nil) (ss_one (s_ret (d_eq hr.units (d_lenSet rfl rfl T.b_len rfl T.b_set (d_var 0)) (d_callB (CallR.or' call_len_seq call_len_str) cd_len rfl T.b_len (by decide +kernel) (ap_cons (d_var 0) ap_nil)))))
abbrev N_is_ranking : List Str := ["thing"]
theorem sc_is_ranking : FnScope N_is_ranking ["thing"] (defScope (top 25)) := ⟨rfl, rfl, rfl, by decide +kernel, rfl, by decide +kernel, by decide +kernel⟩
theorem w_is_ranking (T : Txt K mg)
    (c_are_unlike_names : Cal P w K mg base (clOf K) "are_unlike_names" 2 ["thing"] F_are_unlike_names) : Cal P w K mg base (clOf K) "is_ranking" 3 ["thing"] F_is_ranking := by
  obtain ⟨t_MOST_NAMES, k_MOST_NAMES⟩ := T.c_MOST_NAMES
  have sc := sc_is_ranking
  refine cal_of T.d_is_ranking sc (by decide) fun f cdv A outer s H E hr => ?_
  have tk : Takes (cxOf (L2.CX P w) P w K mg base N_is_ranking "is_ranking" (defScope (top 25)) f cdv A outer s H E) (fun cls d _ H => E cls d H) := takes_of rfl rfl rfl rfl
  exact ss_one (s_ret (v_and (d_cal c_are_unlike_names (hr.mono (by decide)) (passAt tk) (ae_cons (d_var 0) ae_nil)) (v_and (d_gt (d_callB (CallR.or' call_len_seq call_len_str) cd_len rfl T.b_len (by decide +kernel) (ap_cons (d_var 0) ap_nil)) d_int) (v_one (d_le (d_callB (CallR.or' call_len_seq call_len_str) cd_len rfl T.b_len (by decide +kernel) (ap_cons (d_var 0) ap_nil)) (d_globI rfl k_MOST_NAMES))))))
abbrev N_must_be_ranking : List Str := ["ranking"]
theorem sc_must_be_ranking : FnScope N_must_be_ranking ["ranking"] (defScope (top 26)) := ⟨rfl, rfl, rfl, by decide +kernel, rfl, by decide +kernel, by decide +kernel⟩
theorem w_must_be_ranking (T : Txt K mg)
    (c_is_ranking : Cal P w K mg base (clOf K) "is_ranking" 3 ["thing"] F_is_ranking) : Cal P w K mg base (clOf K) "must_be_ranking" 4 ["ranking"] F_must_be_ranking := by
  have sc := sc_must_be_ranking
  refine cal_of T.d_must_be_ranking sc (by decide) fun f cdv A outer s H E hr => ?_
  have tk : Takes (cxOf (L2.CX P w) P w K mg base N_must_be_ranking "must_be_ranking" (defScope (top 26)) f cdv A outer s H E) (fun cls d _ H => E cls d H) := takes_of rfl rfl rfl rfl
  exact ss_one (s_if (d_tnot (d_tval (d_cal c_is_ranking (hr.mono (by decide)) (passAt tk) (ae_cons (d_var 0) ae_nil)))) (ss_one (s_raise (n := "NoRanking") rfl tk rfl (T.exc.each "NoRanking" (by decide)).x (T.exc.each "NoRanking" (by decide)).g (T.exc.each "NoRanking" (by decide)).kp (T.exc.each "NoRanking" (by decide)).b (T.exc.each "NoRanking" (by decide)).ty rfl)) ss_nil)
abbrev N_is_tie : List Str := ["names", "thing"]
theorem sc_is_tie : FnScope N_is_tie ["names", "thing"] (defScope (top 28)) := ⟨rfl, rfl, rfl, by decide +kernel, rfl, by decide +kernel, by decide +kernel⟩
theorem w_is_tie (T : Txt K mg)
    (c_is_number : Cal P w K mg base (clOf K) "is_number" 1 ["thing"] F_is_number) : Cal P w K mg base (clOf K) "is_tie" 2 ["names", "thing"] F_is_tie := by
  have sc := sc_is_tie
  refine cal_of T.d_is_tie sc (by decide) fun f cdv A outer s H E hr => ?_
  have tk : Takes (cxOf (L2.CX P w) P w K mg base N_is_tie "is_tie" (defScope (top 28)) f cdv A outer s H E) (fun cls d _ H => E cls d H) := takes_of rfl rfl rfl rfl
  exact ss_cons (s_if (d_tw (w_or (d_tnot (d_tval (d_isi (m := "tuple") (by decide) rfl T.b_isinstance (d_var 1) (pe_bltn rfl T.b_tuple (by decide +kernel) rfl)))) (w_or (t_ne hr.units (d_callB (CallR.or' call_len_seq call_len_str) cd_len rfl T.b_len (by decide +kernel) (ap_cons (d_var 1) ap_nil)) d_int) (w_or (d_tnot (d_tval (d_cal c_is_number (hr.mono (by decide)) (passAt tk) (ae_cons (d_ix (d_var 1) d_int (fun _ _ => rfl)) ae_nil)))) (w_or1 (d_tnot (d_tval (d_cal c_is_number (hr.mono (by decide)) (passAt tk) (ae_cons (d_ix (d_var 1) d_int (fun _ _ => rfl)) ae_nil))))))))) (ss_one (s_ret d_bl)) ss_nil) (ss_one (s_ret (v_and (d_lt (d_ix (d_var 1) d_int (fun _ _ => rfl)) (d_ix (d_var 1) d_int (fun _ _ => rfl))) (v_and (d_in hr.units (by rfl) (d_ix (d_var 1) d_int (fun _ _ => rfl)) (d_var 0)) (v_one (d_in hr.units (by rfl) (d_ix (d_var 1) d_int (fun _ _ => rfl)) (d_var 0)))))))
abbrev N_reached : List Str := ["ties", "some", "first", "found", "many", "one", "other", "name"]
theorem sc_reached : FnScope N_reached ["ties", "some", "first"] (defScope (top 29)) := ⟨rfl, rfl, rfl, by decide +kernel, rfl, by decide +kernel, by decide +kernel⟩
theorem w_reached (T : Txt K mg) : Cal P w K mg base (clOf K) "reached" 1 ["ties", "some", "first"] F_reached := by
  have sc := sc_reached
  refine cal_of T.d_reached sc (by decide) fun f cdv A outer s H E hr => ?_
  have tk : Takes (cxOf (L2.CX P w) P w K mg base N_reached "reached" (defScope (top 29)) f cdv A outer s H E) (fun cls d _ H => E cls d H) := takes_of rfl rfl rfl rfl
  exact ss_cons (s_set (i := 3) sc.nd rfl (by first | exact Or.inl rfl | exact Or.inr rfl) (d_lst (ae_cons (d_var 2) ae_nil))) (ss_cons (s_set (i := 4) sc.nd rfl (by first | exact Or.inl rfl | exact Or.inr rfl) d_int) (ss_cons (s_while 10000 (passes_of rfl) (t_lt (d_var 4) (d_callB (CallR.or' call_len_seq call_len_str) cd_len rfl T.b_len (by decide +kernel) (ap_cons (d_var 3) ap_nil))) (ss_cons (s_set (i := 4) sc.nd rfl (by first | exact Or.inl rfl | exact Or.inr rfl) (d_callB (CallR.or' call_len_seq call_len_str) cd_len rfl T.b_len (by decide +kernel) (ap_cons (d_var 3) ap_nil))) (ss_one (s_for (passes_of rfl) rfl (i_list (d_var 0)) (pg_tup rfl (pgs_cons (pg_name (i := 5) sc.nd rfl (by first | exact Or.inl rfl | exact Or.inr rfl)) (pgs_cons (pg_name (i := 6) sc.nd rfl (by first | exact Or.inl rfl | exact Or.inr rfl)) pgs_nil))) (g_tup (n := 2) (g_cons (g_name 5) (g_cons (g_name 6) g_nil))) (ss_one (s_if (d_tw (w_and (t_in hr.units (by rfl) (d_var 5) (d_var 1)) (w_and (t_in hr.units (by rfl) (d_var 6) (d_var 1)) (w_and1 (t_ne hr.units (d_in hr.units (by rfl) (d_var 5) (d_var 3)) (d_in hr.units (by rfl) (d_var 6) (d_var 3))))))) (ss_one (s_set (i := 3) sc.nd rfl (by first | exact Or.inl rfl | exact Or.inr rfl) (d_add (d_var 3) (d_lc rfl sc.nd (own := [("name", 7)]) (i_tup (d_tup (ae_cons (d_var 5) (ae_cons (d_var 6) ae_nil)))) (blkOk_by (own := [("name", 7)]) (N := N_reached) (sc := defScope (top 29)) (by decide +kernel)) (g_name 7) (by decide) (fun _ _ _ _ _ => pg_name (i := 7) sc.nd rfl (by first | exact Or.inl rfl | exact Or.inr rfl)) (fun _ _ _ _ _ => dts_one (t_notIn hr.units (by rfl) (d_var 7) (d_var 3))) (fun _ _ _ _ _ => d_var 7))))) ss_nil)))))) (ss_one (s_ret (d_var 3)))))
abbrev N_hang_together : List Str := ["ties", "some"]
theorem sc_hang_together : FnScope N_hang_together ["ties", "some"] (defScope (top 30)) := ⟨rfl, rfl, rfl, by decide +kernel, rfl, by decide +kernel, by decide +kernel⟩
theorem w_hang_together (T : Txt K mg)
    (c_reached : Cal P w K mg base (clOf K) "reached" 1 ["ties", "some", "first"] F_reached) : Cal P w K mg base (clOf K) "hang_together" 2 ["ties", "some"] F_hang_together := by
  have sc := sc_hang_together
  refine cal_of T.d_hang_together sc (by decide) fun f cdv A outer s H E hr => ?_
  have tk : Takes (cxOf (L2.CX P w) P w K mg base N_hang_together "hang_together" (defScope (top 30)) f cdv A outer s H E) (fun cls d _ H => E cls d H) := takes_of rfl rfl rfl rfl
  exact ss_one (s_ret (d_eq hr.units (d_callB (CallR.or' call_len_seq call_len_str) cd_len rfl T.b_len (by decide +kernel) (ap_cons (d_cal c_reached (hr.mono (by decide)) (passAt tk) (ae_cons (d_var 0) (ae_cons (d_var 1) (ae_cons (d_ix (d_var 1) d_int (fun _ _ => rfl)) ae_nil)))) ap_nil)) (d_callB (CallR.or' call_len_seq call_len_str) cd_len rfl T.b_len (by decide +kernel) (ap_cons (d_var 1) ap_nil))))
abbrev N_is_right_tree : List Str := ["names", "thing", "tie"]
theorem sc_is_right_tree : FnScope N_is_right_tree ["names", "thing"] (defScope (top 31)) := ⟨rfl, rfl, rfl, by decide +kernel, rfl, by decide +kernel, by decide +kernel⟩
theorem w_is_right_tree (T : Txt K mg)
    (c_is_tie : Cal P w K mg base (clOf K) "is_tie" 2 ["names", "thing"] F_is_tie)
    (c_hang_together : Cal P w K mg base (clOf K) "hang_together" 2 ["ties", "some"] F_hang_together) : Cal P w K mg base (clOf K) "is_right_tree" 3 ["names", "thing"] F_is_right_tree_v2 := by
  have sc := sc_is_right_tree
  refine cal_of T.d_is_right_tree sc (by decide) fun f cdv A outer s H E hr => ?_
  have tk : Takes (cxOf (L2.CX P w) P w K mg base N_is_right_tree "is_right_tree" (defScope (top 31)) f cdv A outer s H E) (fun cls d _ H => E cls d H) := takes_of rfl rfl rfl rfl
  exact ss_cons (s_if (d_tw (w_or (d_tnot (d_tval (d_isi (m := "list") (by decide) rfl T.b_isinstance (d_var 1) (pe_bltn rfl T.b_list (by decide +kernel) rfl)))) (w_or (t_ne hr.units (d_callB (CallR.or' call_len_seq call_len_str) cd_len rfl T.b_len (by decide +kernel) (ap_cons (d_var 1) ap_nil)) (d_sub (d_callB (CallR.or' call_len_seq call_len_str) cd_len rfl T.b_len (by decide +kernel) (ap_cons (d_var 0) ap_nil)) d_int)) (w_or1 (d_tnot (d_tval (d_callB (cr_all rfl) cd_all rfl T.b_all (by decide +kernel) (ap_cons (d_lc rfl sc.nd (own := [("tie", 2)]) (i_list (d_var 1)) (blkOk_by (own := [("tie", 2)]) (N := N_is_right_tree) (sc := defScope (top 31)) (by decide +kernel)) (g_name 2) (by decide) (fun _ _ _ _ _ => pg_name (i := 2) sc.nd rfl (by first | exact Or.inl rfl | exact Or.inr rfl)) (fun _ _ _ _ _ => dts_nil) (fun _ _ _ _ _ => d_cal c_is_tie (hr.mono (by decide)) passA0 (ae_cons (d_var 0) (ae_cons (d_var 2) ae_nil)))) ap_nil)))))))) (ss_one (s_ret d_bl)) ss_nil) (ss_one (s_ret (v_and (d_eq hr.units (d_var 1) (d_sortSetP rfl hr.units rfl T.b_sorted rfl T.b_set (d_var 1))) (v_one (d_cal c_hang_together (hr.mono (by decide)) (passAt tk) (ae_cons (d_var 1) (ae_cons (d_var 0) ae_nil)))))))
abbrev N_must_be_tree : List Str := ["names", "tree"]
theorem sc_must_be_tree : FnScope N_must_be_tree ["names", "tree"] (defScope (top 32)) := ⟨rfl, rfl, rfl, by decide +kernel, rfl, by decide +kernel, by decide +kernel⟩
theorem w_must_be_tree (T : Txt K mg)
    (c_is_right_tree : Cal P w K mg base (clOf K) "is_right_tree" 3 ["names", "thing"] F_is_right_tree_v2) : Cal P w K mg base (clOf K) "must_be_tree" 4 ["names", "tree"] F_must_be_tree_v2 := by
  have sc := sc_must_be_tree
  refine cal_of T.d_must_be_tree sc (by decide) fun f cdv A outer s H E hr => ?_
  have tk : Takes (cxOf (L2.CX P w) P w K mg base N_must_be_tree "must_be_tree" (defScope (top 32)) f cdv A outer s H E) (fun cls d _ H => E cls d H) := takes_of rfl rfl rfl rfl
  exact ss_one (s_if (d_tnot (d_tval (d_cal c_is_right_tree (hr.mono (by decide)) (passAt tk) (ae_cons (d_var 0) (ae_cons (d_var 1) ae_nil))))) (ss_one (s_raise (n := "NoTree") rfl tk rfl (T.exc.each "NoTree" (by decide)).x (T.exc.each "NoTree" (by decide)).g (T.exc.each "NoTree" (by decide)).kp (T.exc.each "NoTree" (by decide)).b (T.exc.each "NoTree" (by decide)).ty rfl)) ss_nil)
abbrev N_apart_at : List Str := ["tree", "ranking", "many"]
theorem sc_apart_at : FnScope N_apart_at ["tree", "ranking"] (defScope (top 33)) := ⟨rfl, rfl, rfl, by decide +kernel, rfl, by decide +kernel, by decide +kernel⟩
theorem w_apart_at (T : Txt K mg)
    (c_hang_together : Cal P w K mg base (clOf K) "hang_together" 2 ["ties", "some"] F_hang_together) : Cal P w K mg base (clOf K) "apart_at" 3 ["tree", "ranking"] F_apart_at := by
  have sc := sc_apart_at
  refine cal_of T.d_apart_at sc (by decide) fun f cdv A outer s H E hr => ?_
  have tk : Takes (cxOf (L2.CX P w) P w K mg base N_apart_at "apart_at" (defScope (top 33)) f cdv A outer s H E) (fun cls d _ H => E cls d H) := takes_of rfl rfl rfl rfl
  exact ss_cons (s_for (passes_of rfl) rfl (i_range2 rfl T.b_range (ap_cons d_int (ap_cons (d_add (d_callB (CallR.or' call_len_seq call_len_str) cd_len rfl T.b_len (by decide +kernel) (ap_cons (d_var 1) ap_nil)) d_int) ap_nil))) (pg_name (i := 2) sc.nd rfl (by first | exact Or.inl rfl | exact Or.inr rfl)) (g_name 2) (ss_one (s_if (d_tnot (d_tval (d_cal c_hang_together (hr.mono (by decide)) (passAt tk) (ae_cons (d_var 0) (ae_cons (d_slice (d_var 1) dp_none (dp_some (d_var 2))) ae_nil))))) (ss_one (s_ret (d_var 2))) ss_nil))) (ss_one (s_ret d_non))
abbrev N_first_apart : List Str := ["tree", "ranking"]
theorem sc_first_apart : FnScope N_first_apart ["tree", "ranking"] (defScope (top 34)) := ⟨rfl, rfl, rfl, by decide +kernel, rfl, by decide +kernel, by decide +kernel⟩
theorem w_first_apart (T : Txt K mg)
    (c_must_be_ranking : Cal P w K mg base (clOf K) "must_be_ranking" 4 ["ranking"] F_must_be_ranking)
    (c_must_be_tree : Cal P w K mg base (clOf K) "must_be_tree" 4 ["names", "tree"] F_must_be_tree_v2)
    (c_apart_at : Cal P w K mg base (clOf K) "apart_at" 3 ["tree", "ranking"] F_apart_at) : Cal P w K mg base (clOf K) "first_apart" 5 ["tree", "ranking"] F_first_apart_v2 := by
  have sc := sc_first_apart
  refine cal_of T.d_first_apart sc (by decide) fun f cdv A outer s H E hr => ?_
  have tk : Takes (cxOf (L2.CX P w) P w K mg base N_first_apart "first_apart" (defScope (top 34)) f cdv A outer s H E) (fun cls d _ H => E cls d H) := takes_of rfl rfl rfl rfl
  exact ss_cons (s_expr (d_cal c_must_be_ranking (hr.mono (by decide)) (passAt tk) (ae_cons (d_var 1) ae_nil))) (ss_cons (s_expr (d_cal c_must_be_tree (hr.mono (by decide)) (passAt tk) (ae_cons (d_callB (CallR.or' cr_sortedI (cr_sortedD hr.units)) cd_sorted rfl T.b_sorted (by decide +kernel) (ap_cons (d_var 1) ap_nil)) (ae_cons (d_var 0) ae_nil)))) (ss_one (s_ret (d_cal c_apart_at (hr.mono (by decide)) (passAt tk) (ae_cons (d_var 0) (ae_cons (d_var 1) ae_nil))))))
abbrev N__law_mix : List Str := ["_law_number", "_law_k", "_law_mixed"]
theorem sc__law_mix : FnScope N__law_mix ["_law_number", "_law_k"] (defScope (top 36)) := ⟨rfl, rfl, rfl, by decide +kernel, rfl, by decide +kernel, by decide +kernel⟩
theorem w__law_mix (T : Txt K mg) : Cal P w K mg base (clOf K) "_law_mix" 1 ["_law_number", "_law_k"] F_law_mix := by
  have sc := sc__law_mix
  refine cal_of T.d__law_mix sc (by decide) fun f cdv A outer s H E hr => ?_
  have tk : Takes (cxOf (L2.CX P w) P w K mg base N__law_mix "_law_mix" (defScope (top 36)) f cdv A outer s H E) (fun cls d _ H => E cls d H) := takes_of rfl rfl rfl rfl
  exact ss_cons (s_set (i := 2) sc.nd rfl (by first | exact Or.inl rfl | exact Or.inr rfl) (d_mod (d_mul (d_add (d_add (d_mul (d_var 0) (d_var 0)) (d_mul (d_var 1) (d_var 0))) (d_mul (d_mul d_int (d_var 1)) (d_var 1))) d_int) d_int)) (ss_one (s_ret (d_mod (d_mul (d_var 2) (d_var 2)) d_int)))
abbrev N__law_left : List Str := ["_law_cell"]
theorem sc__law_left : FnScope N__law_left ["_law_cell"] (defScope (top 37)) := ⟨rfl, rfl, rfl, by decide +kernel, rfl, by decide +kernel, by decide +kernel⟩
theorem w__law_left (T : Txt K mg) : Cal P w K mg base (clOf K) "_law_left" 1 ["_law_cell"] F_law_left := by
  have sc := sc__law_left
  refine cal_of T.d__law_left sc (by decide) fun f cdv A outer s H E hr => ?_
  have tk : Takes (cxOf (L2.CX P w) P w K mg base N__law_left "_law_left" (defScope (top 37)) f cdv A outer s H E) (fun cls d _ H => E cls d H) := takes_of rfl rfl rfl rfl
  exact ss_cons (s_if (t_lt (d_var 0) (d_pow d_int d_int)) (ss_one (s_ret (d_lst (ae_cons (d_mod (d_var 0) d_int) (ae_cons d_int (ae_cons d_int ae_nil)))))) ss_nil) (ss_one (s_ret (d_lst (ae_cons (d_mod (d_sub (d_var 0) (d_pow d_int d_int)) (d_pow (d_pow (d_pow d_int d_int) d_int) d_int)) (ae_cons d_int (ae_cons d_int ae_nil))))))
abbrev N__law_draw : List Str := ["_law_left_here", "_law_base", "_law_mixed", "_law_digit"]
theorem sc__law_draw : FnScope N__law_draw ["_law_left_here", "_law_base"] (defScope (top 38)) := ⟨rfl, rfl, rfl, by decide +kernel, rfl, by decide +kernel, by decide +kernel⟩
theorem w__law_draw (T : Txt K mg)
    (c__law_mix : Cal P w K mg base (clOf K) "_law_mix" 1 ["_law_number", "_law_k"] F_law_mix) : Cal P w K mg base (clOf K) "_law_draw" 2 ["_law_left_here", "_law_base"] F_law_draw_v3 := by
  have sc := sc__law_draw
  refine cal_of T.d__law_draw sc (by decide) fun f cdv A outer s H E hr => ?_
  have tk : Takes (cxOf (L2.CX P w) P w K mg base N__law_draw "_law_draw" (defScope (top 38)) f cdv A outer s H E) (fun cls d _ H => E cls d H) := takes_of rfl rfl rfl rfl
  exact ss_cons (s_setC (d_add (d_ixC (pv 0) d_int (fun _ _ => rfl)) d_int) (pv 0) d_int) (ss_cons (s_if (t_eq hr.units (d_ixC (pv 0) d_int (fun _ _ => rfl)) d_int) (ss_cons (s_set (i := 2) sc.nd rfl (by first | exact Or.inl rfl | exact Or.inr rfl) (d_cal c__law_mix (hr.mono (by decide)) (passAt tk) (ae_cons (d_ixC (pv 0) d_int (fun _ _ => rfl)) (ae_cons (d_ixC (pv 0) d_int (fun _ _ => rfl)) ae_nil)))) (ss_cons (s_if (t_gt (d_var 1) (d_pow d_int d_int)) (ss_one (s_ret (d_mod (d_mul (d_var 2) (d_add (d_pow (d_cal c__law_mix (hr.mono (by decide)) (passAt tk) (ae_cons (d_ixC (pv 0) d_int (fun _ _ => rfl)) (ae_cons (d_add (d_ixC (pv 0) d_int (fun _ _ => rfl)) d_int) ae_nil))) d_int) d_int)) (d_var 1)))) ss_nil) (ss_one (s_ret (d_mod (d_mod (d_mul (d_var 2) (d_add (d_var 2) d_int)) d_int) (d_var 1)))))) ss_nil) (ss_cons (s_set (i := 3) sc.nd rfl (by first | exact Or.inl rfl | exact Or.inr rfl) (d_mod (d_ixC (pv 0) d_int (fun _ _ => rfl)) (d_var 1))) (ss_cons (s_setC (d_fdiv (d_ixC (pv 0) d_int (fun _ _ => rfl)) (d_var 1)) (pv 0) d_int) (ss_one (s_ret (d_var 3))))))
abbrev N__law_names : List Str := ["_law_left_here", "_law_many", "_law_far", "_law_found", "_law_last", "_law_k"]
theorem sc__law_names : FnScope N__law_names ["_law_left_here", "_law_many"] (defScope (top 39)) := ⟨rfl, rfl, rfl, by decide +kernel, rfl, by decide +kernel, by decide +kernel⟩
theorem w__law_names (T : Txt K mg)
    (c__law_draw : Cal P w K mg base (clOf K) "_law_draw" 2 ["_law_left_here", "_law_base"] F_law_draw_v3) : Cal P w K mg base (clOf K) "_law_names" 3 ["_law_left_here", "_law_many"] F_law_names_v6 := by
  have sc := sc__law_names
  refine cal_of T.d__law_names sc (by decide) fun f cdv A outer s H E hr => ?_
  have tk : Takes (cxOf (L2.CX P w) P w K mg base N__law_names "_law_names" (defScope (top 39)) f cdv A outer s H E) (fun cls d _ H => E cls d H) := takes_of rfl rfl rfl rfl
  exact ss_cons (s_set (i := 2) sc.nd rfl (by first | exact Or.inl rfl | exact Or.inr rfl) (d_ix (d_lst (ae_cons d_int (ae_cons d_int (ae_cons d_int (ae_cons (d_pow d_int d_int) ae_nil))))) (d_cal c__law_draw (hr.mono (by decide)) (passAt tk) (ae_cons (d_var 0) (ae_cons d_int ae_nil))) (fun _ _ => rfl))) (ss_cons (s_set (i := 3) sc.nd rfl (by first | exact Or.inl rfl | exact Or.inr rfl) (d_lst ae_nil)) (ss_cons (s_set (i := 4) sc.nd rfl (by first | exact Or.inl rfl | exact Or.inr rfl) (d_neg d_int)) (ss_cons (s_for (passes_of rfl) rfl (i_range1 rfl T.b_range (ap_cons (d_var 1) ap_nil)) (pg_name (i := 5) sc.nd rfl (by first | exact Or.inl rfl | exact Or.inr rfl)) (g_name 5) (ss_cons (s_set (i := 4) sc.nd rfl (by first | exact Or.inl rfl | exact Or.inr rfl) (d_add (d_add (d_var 4) d_int) (d_cal c__law_draw (hr.mono (by decide)) (passAt tk) (ae_cons (d_var 0) (ae_cons (d_var 2) ae_nil))))) (ss_one (s_expr (d_append (pv 3) (d_var 4)))))) (ss_one (s_ret (d_var 3))))))
abbrev N__law_shuffled : List Str := ["_law_left_here", "_law_things", "_law_found", "_law_thing"]
theorem sc__law_shuffled : FnScope N__law_shuffled ["_law_left_here", "_law_things"] (defScope (top 40)) := ⟨rfl, rfl, rfl, by decide +kernel, rfl, by decide +kernel, by decide +kernel⟩
theorem w__law_shuffled (T : Txt K mg)
    (c__law_draw : Cal P w K mg base (clOf K) "_law_draw" 2 ["_law_left_here", "_law_base"] F_law_draw_v3) : Cal P w K mg base (clOf K) "_law_shuffled" 3 ["_law_left_here", "_law_things"] F_law_shuffled_v3 := by
  have sc := sc__law_shuffled
  refine cal_of T.d__law_shuffled sc (by decide) fun f cdv A outer s H E hr => ?_
  have tk : Takes (cxOf (L2.CX P w) P w K mg base N__law_shuffled "_law_shuffled" (defScope (top 40)) f cdv A outer s H E) (fun cls d _ H => E cls d H) := takes_of rfl rfl rfl rfl
  exact ss_cons (s_set (i := 2) sc.nd rfl (by first | exact Or.inl rfl | exact Or.inr rfl) (d_lst ae_nil)) (ss_cons (s_for (passes_of rfl) rfl (i_list (d_var 1)) (pg_name (i := 3) sc.nd rfl (by first | exact Or.inl rfl | exact Or.inr rfl)) (g_name 3) (ss_one (s_expr (d_insert (pv 2) (ae_cons (d_cal c__law_draw (hr.mono (by decide)) (passAt tk) (ae_cons (d_var 0) (ae_cons (d_add (d_callB (CallR.or' call_len_seq call_len_str) cd_len rfl T.b_len (by decide +kernel) (ap_cons (d_var 2) ap_nil)) d_int) ae_nil))) (ae_cons (d_var 3) ae_nil)))))) (ss_one (s_ret (d_var 2))))
abbrev N__law_tree : List Str := ["_law_left_here", "_law_names_here", "_law_order", "_law_way", "_law_found", "_law_k", "_law_other"]
theorem sc__law_tree : FnScope N__law_tree ["_law_left_here", "_law_names_here"] (defScope (top 41)) := ⟨rfl, rfl, rfl, by decide +kernel, rfl, by decide +kernel, by decide +kernel⟩
theorem w__law_tree (T : Txt K mg)
    (c__law_draw : Cal P w K mg base (clOf K) "_law_draw" 2 ["_law_left_here", "_law_base"] F_law_draw_v3)
    (c__law_shuffled : Cal P w K mg base (clOf K) "_law_shuffled" 3 ["_law_left_here", "_law_things"] F_law_shuffled_v3) : Cal P w K mg base (clOf K) "_law_tree" 4 ["_law_left_here", "_law_names_here"] F_law_tree_v2 := by
  have sc := sc__law_tree
  refine cal_of T.d__law_tree sc (by decide) fun f cdv A outer s H E hr => ?_
  have tk : Takes (cxOf (L2.CX P w) P w K mg base N__law_tree "_law_tree" (defScope (top 41)) f cdv A outer s H E) (fun cls d _ H => E cls d H) := takes_of rfl rfl rfl rfl
  exact ss_cons (s_set (i := 2) sc.nd rfl (by first | exact Or.inl rfl | exact Or.inr rfl) (d_cal c__law_shuffled (hr.mono (by decide)) (passAt tk) (ae_cons (d_var 0) (ae_cons (d_var 1) ae_nil)))) (ss_cons (s_set (i := 3) sc.nd rfl (by first | exact Or.inl rfl | exact Or.inr rfl) (d_cal c__law_draw (hr.mono (by decide)) (passAt tk) (ae_cons (d_var 0) (ae_cons d_int ae_nil)))) (ss_cons (s_set (i := 4) sc.nd rfl (by first | exact Or.inl rfl | exact Or.inr rfl) (d_lst ae_nil)) (ss_cons (s_for (passes_of rfl) rfl (i_range2 rfl T.b_range (ap_cons d_int (ap_cons (d_callB (CallR.or' call_len_seq call_len_str) cd_len rfl T.b_len (by decide +kernel) (ap_cons (d_var 2) ap_nil)) ap_nil))) (pg_name (i := 5) sc.nd rfl (by first | exact Or.inl rfl | exact Or.inr rfl)) (g_name 5) (ss_cons (s_set (i := 6) sc.nd rfl (by first | exact Or.inl rfl | exact Or.inr rfl) (d_ix (d_var 2) (d_ix (d_lst (ae_cons (d_cal c__law_draw (hr.mono (by decide)) (passAt tk) (ae_cons (d_var 0) (ae_cons (d_var 5) ae_nil))) (ae_cons (d_sub (d_var 5) d_int) (ae_cons d_int ae_nil)))) (d_var 3) (fun _ _ => rfl)) (fun _ _ => rfl))) (ss_one (s_expr (d_append (pv 4) (d_tup (ae_cons (d_callB (CallR.or' (cr_min rfl) (call_min2 rfl)) cd_min rfl T.b_min (by decide +kernel) (ap_cons (d_ix (d_var 2) (d_var 5) (fun _ _ => rfl)) (ap_cons (d_var 6) ap_nil))) (ae_cons (d_callB (CallR.or' (cr_max rfl) (call_max2 rfl)) cd_max rfl T.b_max (by decide +kernel) (ap_cons (d_ix (d_var 2) (d_var 5) (fun _ _ => rfl)) (ap_cons (d_var 6) ap_nil))) ae_nil)))))))) (ss_one (s_ret (d_callB (CallR.or' cr_sortedI (cr_sortedD hr.units)) cd_sorted rfl T.b_sorted (by decide +kernel) (ap_cons (d_var 4) ap_nil)))))))
abbrev N__law_falling : List Str := ["_law_left_here", "_law_names_here", "_law_tree_here", "_law_found", "_law_near", "_law_one", "_law_other"]
theorem sc__law_falling : FnScope N__law_falling ["_law_left_here", "_law_names_here", "_law_tree_here"] (defScope (top 42)) := ⟨rfl, rfl, rfl, by decide +kernel, rfl, by decide +kernel, by decide +kernel⟩
theorem w__law_falling (T : Txt K mg)
    (c__law_draw : Cal P w K mg base (clOf K) "_law_draw" 2 ["_law_left_here", "_law_base"] F_law_draw_v3) : Cal P w K mg base (clOf K) "_law_falling" 3 ["_law_left_here", "_law_names_here", "_law_tree_here"] F_law_falling_v3 := by
  have sc := sc__law_falling
  refine cal_of T.d__law_falling sc (by decide) fun f cdv A outer s H E hr => ?_
  have tk : Takes (cxOf (L2.CX P w) P w K mg base N__law_falling "_law_falling" (defScope (top 42)) f cdv A outer s H E) (fun cls d _ H => E cls d H) := takes_of rfl rfl rfl rfl
  exact ss_cons (s_set (i := 3) sc.nd rfl (by first | exact Or.inl rfl | exact Or.inr rfl) (d_lst (ae_cons (d_ix (d_var 1) (d_cal c__law_draw (hr.mono (by decide)) (passAt tk) (ae_cons (d_var 0) (ae_cons (d_callB (CallR.or' call_len_seq call_len_str) cd_len rfl T.b_len (by decide +kernel) (ap_cons (d_var 1) ap_nil)) ae_nil))) (fun _ _ => rfl)) ae_nil))) (ss_cons (s_while 10000 (passes_of rfl) (t_lt (d_callB (CallR.or' call_len_seq call_len_str) cd_len rfl T.b_len (by decide +kernel) (ap_cons (d_var 3) ap_nil)) (d_callB (CallR.or' call_len_seq call_len_str) cd_len rfl T.b_len (by decide +kernel) (ap_cons (d_var 1) ap_nil))) (ss_cons (s_set (i := 4) sc.nd rfl (by first | exact Or.inl rfl | exact Or.inr rfl) (d_lst ae_nil)) (ss_cons (s_for (passes_of rfl) rfl (i_list (d_var 2)) (pg_tup rfl (pgs_cons (pg_name (i := 5) sc.nd rfl (by first | exact Or.inl rfl | exact Or.inr rfl)) (pgs_cons (pg_name (i := 6) sc.nd rfl (by first | exact Or.inl rfl | exact Or.inr rfl)) pgs_nil))) (g_tup (n := 2) (g_cons (g_name 5) (g_cons (g_name 6) g_nil))) (ss_one (s_if (t_ne hr.units (d_in hr.units (by rfl) (d_var 5) (d_var 3)) (d_in hr.units (by rfl) (d_var 6) (d_var 3))) (ss_one (s_expr (d_append (pv 4) (d_ix (d_lst (ae_cons (d_var 5) (ae_cons (d_var 6) ae_nil))) (d_callTy call_int1 cd_int rfl T.b_int (by decide +kernel) (ap_cons (d_in hr.units (by rfl) (d_var 5) (d_var 3)) ap_nil)) (fun _ _ => rfl))))) ss_nil))) (ss_one (s_expr (d_append (pv 3) (d_ix (d_var 4) (d_cal c__law_draw (hr.mono (by decide)) (passAt tk) (ae_cons (d_var 0) (ae_cons (d_callB (CallR.or' call_len_seq call_len_str) cd_len rfl T.b_len (by decide +kernel) (ap_cons (d_var 4) ap_nil)) ae_nil))) (fun _ _ => rfl)))))))) (ss_one (s_ret (d_var 3))))
abbrev N__law_together : List Str := ["_law_tree_here", "_law_some", "_law_found", "_law_turn", "_law_one", "_law_other", "_law_name"]
theorem sc__law_together : FnScope N__law_together ["_law_tree_here", "_law_some"] (defScope (top 43)) := ⟨rfl, rfl, rfl, by decide +kernel, rfl, by decide +kernel, by decide +kernel⟩
theorem w__law_together (T : Txt K mg) : Cal P w K mg base (clOf K) "_law_together" 1 ["_law_tree_here", "_law_some"] F_law_together := by
  have sc := sc__law_together
  refine cal_of T.d__law_together sc (by decide) fun f cdv A outer s H E hr => ?_
  have tk : Takes (cxOf (L2.CX P w) P w K mg base N__law_together "_law_together" (defScope (top 43)) f cdv A outer s H E) (fun cls d _ H => E cls d H) := takes_of rfl rfl rfl rfl
  exact ss_cons (s_set (i := 2) sc.nd rfl (by first | exact Or.inl rfl | exact Or.inr rfl) (d_slice (d_var 1) dp_none (dp_some d_int))) (ss_cons (s_for (passes_of rfl) rfl (i_range1 rfl T.b_range (ap_cons (d_callB (CallR.or' call_len_seq call_len_str) cd_len rfl T.b_len (by decide +kernel) (ap_cons (d_var 1) ap_nil)) ap_nil)) (pg_name (i := 3) sc.nd rfl (by first | exact Or.inl rfl | exact Or.inr rfl)) (g_name 3) (ss_one (s_for (passes_of rfl) rfl (i_list (d_var 0)) (pg_tup rfl (pgs_cons (pg_name (i := 4) sc.nd rfl (by first | exact Or.inl rfl | exact Or.inr rfl)) (pgs_cons (pg_name (i := 5) sc.nd rfl (by first | exact Or.inl rfl | exact Or.inr rfl)) pgs_nil))) (g_tup (n := 2) (g_cons (g_name 4) (g_cons (g_name 5) g_nil))) (ss_one (s_if (d_tw (w_and (t_in hr.units (by rfl) (d_var 4) (d_var 1)) (w_and (t_in hr.units (by rfl) (d_var 5) (d_var 1)) (w_and1 (t_ne hr.units (d_in hr.units (by rfl) (d_var 4) (d_var 2)) (d_in hr.units (by rfl) (d_var 5) (d_var 2))))))) (ss_one (s_set (i := 2) sc.nd rfl (by first | exact Or.inl rfl | exact Or.inr rfl) (d_add (d_var 2) (d_lc rfl sc.nd (own := [("_law_name", 6)]) (i_tup (d_tup (ae_cons (d_var 4) (ae_cons (d_var 5) ae_nil)))) (blkOk_by (own := [("_law_name", 6)]) (N := N__law_together) (sc := defScope (top 43)) (by decide +kernel)) (g_name 6) (by decide) (fun _ _ _ _ _ => pg_name (i := 6) sc.nd rfl (by first | exact Or.inl rfl | exact Or.inr rfl)) (fun _ _ _ _ _ => dts_one (t_notIn hr.units (by rfl) (d_var 6) (d_var 2))) (fun _ _ _ _ _ => d_var 6))))) ss_nil))))) (ss_one (s_ret (d_eq hr.units (d_callB (CallR.or' call_len_seq call_len_str) cd_len rfl T.b_len (by decide +kernel) (ap_cons (d_var 2) ap_nil)) (d_callB (CallR.or' call_len_seq call_len_str) cd_len rfl T.b_len (by decide +kernel) (ap_cons (d_var 1) ap_nil))))))
abbrev N__law_apart : List Str := ["_law_tree_here", "_law_ranking", "_law_many"]
theorem sc__law_apart : FnScope N__law_apart ["_law_tree_here", "_law_ranking"] (defScope (top 44)) := ⟨rfl, rfl, rfl, by decide +kernel, rfl, by decide +kernel, by decide +kernel⟩
theorem w__law_apart (T : Txt K mg)
    (c__law_together : Cal P w K mg base (clOf K) "_law_together" 1 ["_law_tree_here", "_law_some"] F_law_together) : Cal P w K mg base (clOf K) "_law_apart" 2 ["_law_tree_here", "_law_ranking"] F_law_apart := by
  have sc := sc__law_apart
  refine cal_of T.d__law_apart sc (by decide) fun f cdv A outer s H E hr => ?_
  have tk : Takes (cxOf (L2.CX P w) P w K mg base N__law_apart "_law_apart" (defScope (top 44)) f cdv A outer s H E) (fun cls d _ H => E cls d H) := takes_of rfl rfl rfl rfl
  exact ss_cons (s_for (passes_of rfl) rfl (i_range2 rfl T.b_range (ap_cons d_int (ap_cons (d_add (d_callB (CallR.or' call_len_seq call_len_str) cd_len rfl T.b_len (by decide +kernel) (ap_cons (d_var 1) ap_nil)) d_int) ap_nil))) (pg_name (i := 2) sc.nd rfl (by first | exact Or.inl rfl | exact Or.inr rfl)) (g_name 2) (ss_one (s_if (d_tnot (d_tval (d_cal c__law_together (hr.mono (by decide)) (passAt tk) (ae_cons (d_var 0) (ae_cons (d_slice (d_var 1) dp_none (dp_some (d_var 2))) ae_nil))))) (ss_one (s_ret (d_var 2))) ss_nil))) (ss_one (s_ret d_non))
abbrev N__law_marks : List Str := ["_law_caught", "_law_hits", "_law_words", "_law_found", "_law_word", "_law_hit"]
theorem sc__law_marks : FnScope N__law_marks ["_law_caught"] (defScope (top 45)) := ⟨rfl, rfl, rfl, by decide +kernel, rfl, by decide +kernel, by decide +kernel⟩
theorem w__law_marks (T : Txt K mg) : Cal P w K mg base (clOf K) "_law_marks" 1 ["_law_caught"] F_law_marks_v3 := by
  have sc := sc__law_marks
  refine cal_of T.d__law_marks sc (by decide) fun f cdv A outer s H E hr => ?_
  have tk : Takes (cxOf (L2.CX P w) P w K mg base N__law_marks "_law_marks" (defScope (top 45)) f cdv A outer s H E) (fun cls d _ H => E cls d H) := takes_of rfl rfl rfl rfl
  exact ss_cons (s_set (i := 1) sc.nd rfl (by first | exact Or.inl rfl | exact Or.inr rfl) (d_lst (ae_cons (d_isX (ns := ["NoRanking", "NoTree"]) (m := "NoRanking") T.exc rfl T.b_isinstance (d_var 0) (pe_glob (v := .ref (clOf K "NoRanking")) rfl (T.exc.each "NoRanking" (by decide)).g rfl)) (ae_cons (d_isY (ns := ["NoRanking", "NoTree"]) (m := "NoFolk") T.exc T.exy_NoFolk rfl T.b_isinstance (d_var 0) (pe_glob (v := .ref (clOf K "NoFolk")) rfl T.exy_NoFolk.g rfl)) (ae_cons (d_isY (ns := ["NoRanking", "NoTree"]) (m := "NoNames") T.exc T.exy_NoNames rfl T.b_isinstance (d_var 0) (pe_glob (v := .ref (clOf K "NoNames")) rfl T.exy_NoNames.g rfl)) ae_nil))))) (ss_cons (s_set (i := 1) sc.nd rfl (by first | exact Or.inl rfl | exact Or.inr rfl) (d_add (d_var 1) (d_lst (ae_cons (d_isY (ns := ["NoRanking", "NoTree"]) (m := "NoFit") T.exc T.exy_NoFit rfl T.b_isinstance (d_var 0) (pe_glob (v := .ref (clOf K "NoFit")) rfl T.exy_NoFit.g rfl)) (ae_cons (d_isY (ns := ["NoRanking", "NoTree"]) (m := "NoLine") T.exc T.exy_NoLine rfl T.b_isinstance (d_var 0) (pe_glob (v := .ref (clOf K "NoLine")) rfl T.exy_NoLine.g rfl)) (ae_cons (d_isY (ns := ["NoRanking", "NoTree"]) (m := "NoNumber") T.exc T.exy_NoNumber rfl T.b_isinstance (d_var 0) (pe_glob (v := .ref (clOf K "NoNumber")) rfl T.exy_NoNumber.g rfl)) ae_nil)))))) (ss_cons (s_set (i := 1) sc.nd rfl (by first | exact Or.inl rfl | exact Or.inr rfl) (d_add (d_var 1) (d_lst (ae_cons (d_isX (ns := ["NoRanking", "NoTree"]) (m := "NoTree") T.exc rfl T.b_isinstance (d_var 0) (pe_glob (v := .ref (clOf K "NoTree")) rfl (T.exc.each "NoTree" (by decide)).g rfl)) (ae_cons (d_isY (ns := ["NoRanking", "NoTree"]) (m := "NoPaper") T.exc T.exy_NoPaper rfl T.b_isinstance (d_var 0) (pe_glob (v := .ref (clOf K "NoPaper")) rfl T.exy_NoPaper.g rfl)) (ae_cons (d_isY (ns := ["NoRanking", "NoTree"]) (m := "NoText") T.exc T.exy_NoText rfl T.b_isinstance (d_var 0) (pe_glob (v := .ref (clOf K "NoText")) rfl T.exy_NoText.g rfl)) ae_nil)))))) (ss_cons (s_set (i := 1) sc.nd rfl (by first | exact Or.inl rfl | exact Or.inr rfl) (d_add (d_var 1) (d_lst (ae_cons (d_isY (ns := ["NoRanking", "NoTree"]) (m := "NoTitle") T.exc T.exy_NoTitle rfl T.b_isinstance (d_var 0) (pe_glob (v := .ref (clOf K "NoTitle")) rfl T.exy_NoTitle.g rfl)) (ae_cons (d_isY (ns := ["NoRanking", "NoTree"]) (m := "NoRow") T.exc T.exy_NoRow rfl T.b_isinstance (d_var 0) (pe_glob (v := .ref (clOf K "NoRow")) rfl T.exy_NoRow.g rfl)) (ae_cons (d_isY (ns := ["NoRanking", "NoTree"]) (m := "NoBack") T.exc T.exy_NoBack rfl T.b_isinstance (d_var 0) (pe_glob (v := .ref (clOf K "NoBack")) rfl T.exy_NoBack.g rfl)) ae_nil)))))) (ss_cons (s_set (i := 1) sc.nd rfl (by first | exact Or.inl rfl | exact Or.inr rfl) (d_add (d_var 1) (d_lst (ae_cons (d_isY (ns := ["NoRanking", "NoTree"]) (m := "TooGreat") T.exc T.exy_TooGreat rfl T.b_isinstance (d_var 0) (pe_glob (v := .ref (clOf K "TooGreat")) rfl T.exy_TooGreat.g rfl)) (ae_cons (d_isY (ns := ["NoRanking", "NoTree"]) (m := "NoWeights") T.exc T.exy_NoWeights rfl T.b_isinstance (d_var 0) (pe_glob (v := .ref (clOf K "NoWeights")) rfl T.exy_NoWeights.g rfl)) (ae_cons (d_isY (ns := ["NoRanking", "NoTree"]) (m := "NoFall") T.exc T.exy_NoFall rfl T.b_isinstance (d_var 0) (pe_glob (v := .ref (clOf K "NoFall")) rfl T.exy_NoFall.g rfl)) ae_nil)))))) (ss_cons (s_set (i := 1) sc.nd rfl (by first | exact Or.inl rfl | exact Or.inr rfl) (d_add (d_var 1) (d_lst (ae_cons (d_isY (ns := ["NoRanking", "NoTree"]) (m := "NoTops") T.exc T.exy_NoTops rfl T.b_isinstance (d_var 0) (pe_glob (v := .ref (clOf K "NoTops")) rfl T.exy_NoTops.g rfl)) (ae_cons (d_isY (ns := ["NoRanking", "NoTree"]) (m := "NoFixed") T.exc T.exy_NoFixed rfl T.b_isinstance (d_var 0) (pe_glob (v := .ref (clOf K "NoFixed")) rfl T.exy_NoFixed.g rfl)) (ae_cons (d_isY (ns := ["NoRanking", "NoTree"]) (m := "NoHand") T.exc T.exy_NoHand rfl T.b_isinstance (d_var 0) (pe_glob (v := .ref (clOf K "NoHand")) rfl T.exy_NoHand.g rfl)) ae_nil)))))) (ss_cons (s_set (i := 1) sc.nd rfl (by first | exact Or.inl rfl | exact Or.inr rfl) (d_add (d_var 1) (d_lst (ae_cons (d_isY (ns := ["NoRanking", "NoTree"]) (m := "NoRule") T.exc T.exy_NoRule rfl T.b_isinstance (d_var 0) (pe_glob (v := .ref (clOf K "NoRule")) rfl T.exy_NoRule.g rfl)) ae_nil)))) (ss_cons (s_set (i := 2) sc.nd rfl (by first | exact Or.inl rfl | exact Or.inr rfl) (d_split d_str d_str)) (ss_cons (s_set (i := 2) sc.nd rfl (by first | exact Or.inl rfl | exact Or.inr rfl) (d_add (d_var 2) (d_split d_str d_str))) (ss_cons (s_set (i := 2) sc.nd rfl (by first | exact Or.inl rfl | exact Or.inr rfl) (d_add (d_var 2) (d_split d_str d_str))) (ss_cons (s_setLc (i := 3) rfl sc.nd rfl rfl (sw_true rfl rfl rfl (by decide +kernel)) (own := [("_law_word", 4), ("_law_hit", 5)]) (i_zip rfl T.b_zip (ae_cons (d_var 2) (ae_cons (d_var 1) ae_nil)) (fun h => pi_zip (by rfl) T.b_zip h)) (blkOk_by (own := [("_law_word", 4), ("_law_hit", 5)]) (N := N__law_marks) (sc := defScope (top 45)) (by decide +kernel)) (g_tup (n := 2) (g_cons (g_name 4) (g_cons (g_name 5) g_nil))) (by decide) (fun _ _ _ _ _ => pg_tup rfl (pgs_cons (pg_name (i := 4) sc.nd rfl (by first | exact Or.inl rfl | exact Or.inr rfl)) (pgs_cons (pg_name (i := 5) sc.nd rfl (by first | exact Or.inl rfl | exact Or.inr rfl)) pgs_nil))) (fun _ _ _ _ _ => dts_one (d_tval (d_var 5))) (fun _ _ _ _ _ => d_var 4)) (ss_cons (s_if (d_tnot (d_tval (d_isV (ns := ["NoRanking", "NoTree"]) T.exc rfl T.b_isinstance (d_var 0) (pe_bltn rfl T.b_ValueError (by decide +kernel) rfl)))) (ss_one (s_expr (d_append (pv 3) d_str))) ss_nil) (ss_one (s_ret (d_var 3))))))))))))))
abbrev N__law_copied : List Str := ["_law_thing", "_law_part"]
theorem sc__law_copied : FnScope N__law_copied ["_law_thing"] (defScope (top 46)) := ⟨rfl, rfl, rfl, by decide +kernel, rfl, by decide +kernel, by decide +kernel⟩
theorem w__law_copied (T : Txt K mg) : ∀ m : Nat, Cal P w K mg base (clOf K) "_law_copied" (m + 1) ["_law_thing"] (F_law_copied m) := by
  have sc := sc__law_copied
  intro m
  induction m with
  | zero => exact cal_of T.d__law_copied sc (by decide) fun f cdv A outer s H E hr => ss_nev
  | succ m crec =>
    refine (?_ : Cal P w K mg base (clOf K) "_law_copied" (m + 1 + 1) ["_law_thing"] (runF N__law_copied.length 1 (p_law_copied (F_law_copied m))))
    refine cal_of T.d__law_copied sc (by decide) fun f cdv A outer s H E hr => ?_
    have tk : Takes (cxOf (L2.CX P w) P w K mg base N__law_copied "_law_copied" (defScope (top 46)) f cdv A outer s H E) (fun cls d _ H => E cls d H) := takes_of rfl rfl rfl rfl
    exact ss_cons (s_if (d_tval (d_isi (m := "tuple") (by decide) rfl T.b_isinstance (d_var 0) (pe_bltn rfl T.b_tuple (by decide +kernel) rfl))) (ss_one (s_ret (d_callTy call_tuple_of cd_tuple rfl T.b_tuple (by decide +kernel) (ap_cons (d_lc rfl sc.nd (own := [("_law_part", 1)]) (i_list (d_var 0)) (blkOk_by (own := [("_law_part", 1)]) (N := N__law_copied) (sc := defScope (top 46)) (by decide +kernel)) (g_name 1) (by decide) (fun _ _ _ _ _ => pg_name (i := 1) sc.nd rfl (by first | exact Or.inl rfl | exact Or.inr rfl)) (fun _ _ _ _ _ => dts_nil) (fun _ _ _ _ _ => d_cal crec (hr.mono (Nat.le_refl _)) passA0 (ae_cons (d_var 1) ae_nil))) ap_nil)))) ss_nil) (ss_cons (s_if (d_tval (d_isi (m := "list") (by decide) rfl T.b_isinstance (d_var 0) (pe_bltn rfl T.b_list (by decide +kernel) rfl))) (ss_one (s_ret (d_lc rfl sc.nd (own := [("_law_part", 1)]) (i_list (d_var 0)) (blkOk_by (own := [("_law_part", 1)]) (N := N__law_copied) (sc := defScope (top 46)) (by decide +kernel)) (g_name 1) (by decide) (fun _ _ _ _ _ => pg_name (i := 1) sc.nd rfl (by first | exact Or.inl rfl | exact Or.inr rfl)) (fun _ _ _ _ _ => dts_nil) (fun _ _ _ _ _ => d_cal crec (hr.mono (Nat.le_refl _)) passA0 (ae_cons (d_var 1) ae_nil))))) ss_nil) (ss_one (s_ret (d_var 0))))
abbrev N__law_told : List Str := ["_law_tree_here", "_law_ranking", "_law_handed", "_law_caught", "_law_found", "e"]
theorem sc__law_told : FnScope N__law_told ["_law_tree_here", "_law_ranking"] (defScope (top 47)) := ⟨rfl, rfl, rfl, by decide +kernel, rfl, by decide +kernel, by decide +kernel⟩
theorem w__law_told (T : Txt K mg)
    (c_first_apart : Cal P w K mg base (clOf K) "first_apart" 5 ["tree", "ranking"] F_first_apart_v2)
    (c__law_marks : Cal P w K mg base (clOf K) "_law_marks" 1 ["_law_caught"] F_law_marks_v3)
    (c__law_copied : Cal P w K mg base (clOf K) "_law_copied" 7 ["_law_thing"] (F_law_copied 6)) : Cal P w K mg base (clOf K) "_law_told" 8 ["_law_tree_here", "_law_ranking"] F_law_told_v25 := by
  have sc := sc__law_told
  refine cal_of T.d__law_told sc (by decide) fun f cdv A outer s H E hr => ?_
  have tk : Takes (cxOf (L2.CX P w) P w K mg base N__law_told "_law_told" (defScope (top 47)) f cdv A outer s H E) (fun cls d _ H => E cls d H) := takes_of rfl rfl rfl rfl
  exact ss_cons (s_set (i := 2) sc.nd rfl (by first | exact Or.inl rfl | exact Or.inr rfl) (d_cal c__law_copied (hr.mono (by decide)) (passAt tk) (ae_cons (d_lst (ae_cons (d_var 0) (ae_cons (d_var 1) ae_nil))) ae_nil))) (ss_cons (s_set (i := 3) sc.nd rfl (by first | exact Or.inl rfl | exact Or.inr rfl) d_non) (ss_cons (s_set (i := 4) sc.nd rfl (by first | exact Or.inl rfl | exact Or.inr rfl) d_non) (ss_cons (s_try (ns := ["NoRanking", "NoTree"]) (i := 5) (j := 3) rfl T.exc.top rfl rfl rfl sc.nd rfl rfl ⟨rfl, by decide, .inl T.exc.gF⟩ tk (fun W pn xe tk _ => ss_one (s_set (i := 4) sc.nd rfl (by first | exact Or.inl rfl | exact Or.inr rfl) (d_cal c_first_apart (hr.mono (by decide)) (passAt tk) (ae_cons (d_ix (d_var 2) d_int (fun _ _ => rfl)) (ae_cons (d_ix (d_var 2) d_int (fun _ _ => rfl)) ae_nil))))) (fun a oe pn => pss_one (ps_set (i := 3) sc.nd rfl (by first | exact Or.inl rfl | exact Or.inr rfl) (pv 5)))) (ss_cons (s_if (d_tw (w_or (t_ne hr.units (d_var 2) (d_lst (ae_cons (d_var 0) (ae_cons (d_var 1) ae_nil)))) (w_or1 (d_tval (d_isi (m := "bool") (by decide) rfl T.b_isinstance (d_var 4) (pe_bltn rfl T.b_bool (by decide +kernel) rfl)))))) (ss_one (s_ret (d_lst (ae_cons d_str ae_nil)))) ss_nil) (ss_cons (s_if (t_notN (d_var 3)) (ss_one (s_ret (d_cal c__law_marks (hr.mono (by decide)) (passAt tk) (ae_cons (d_var 3) ae_nil)))) ss_nil) (ss_one (s_ret (d_var 4))))))))
abbrev N__law_put_off : List Str := ["_law_tree_here", "_law_ranking", "_law_turned", "_law_one", "_law_other", "_law_name"]
theorem sc__law_put_off : FnScope N__law_put_off ["_law_tree_here", "_law_ranking", "_law_turned"] (defScope (top 48)) := ⟨rfl, rfl, rfl, by decide +kernel, rfl, by decide +kernel, by decide +kernel⟩
theorem w__law_put_off (T : Txt K mg) : Cal P w K mg base (clOf K) "_law_put_off" 1 ["_law_tree_here", "_law_ranking", "_law_turned"] F_law_put_off_v3 := by
  have sc := sc__law_put_off
  refine cal_of T.d__law_put_off sc (by decide) fun f cdv A outer s H E hr => ?_
  have tk : Takes (cxOf (L2.CX P w) P w K mg base N__law_put_off "_law_put_off" (defScope (top 48)) f cdv A outer s H E) (fun cls d _ H => E cls d H) := takes_of rfl rfl rfl rfl
  exact ss_one (s_ret (d_tup (ae_cons (d_lc rfl sc.nd (own := [("_law_one", 3), ("_law_other", 4)]) (i_list (d_var 0)) (blkOk_by (own := [("_law_one", 3), ("_law_other", 4)]) (N := N__law_put_off) (sc := defScope (top 48)) (by decide +kernel)) (g_tup (n := 2) (g_cons (g_name 3) (g_cons (g_name 4) g_nil))) (by decide) (fun _ _ _ _ _ => pg_tup rfl (pgs_cons (pg_name (i := 3) sc.nd rfl (by first | exact Or.inl rfl | exact Or.inr rfl)) (pgs_cons (pg_name (i := 4) sc.nd rfl (by first | exact Or.inl rfl | exact Or.inr rfl)) pgs_nil))) (fun _ _ _ _ _ => dts_nil) (fun _ _ _ _ _ => d_tup (ae_cons (d_dget hr.units (d_var 2) (d_var 3) (fun _ _ => rfl)) (ae_cons (d_dget hr.units (d_var 2) (d_var 4) (fun _ _ => rfl)) ae_nil)))) (ae_cons (d_lc rfl sc.nd (own := [("_law_name", 5)]) (i_list (d_var 1)) (blkOk_by (own := [("_law_name", 5)]) (N := N__law_put_off) (sc := defScope (top 48)) (by decide +kernel)) (g_name 5) (by decide) (fun _ _ _ _ _ => pg_name (i := 5) sc.nd rfl (by first | exact Or.inl rfl | exact Or.inr rfl)) (fun _ _ _ _ _ => dts_nil) (fun _ _ _ _ _ => d_dget hr.units (d_var 2) (d_var 5) (fun _ _ => rfl))) ae_nil))))
abbrev N__law_refused : List Str := ["_law_left_here", "_law_names_here", "_law_tree_here", "_law_ranking", "_law_none", "_law_odd", "_law_strange", "_law_others", "_law_bad"]
theorem sc__law_refused : FnScope N__law_refused ["_law_left_here", "_law_names_here", "_law_tree_here", "_law_ranking"] (defScope (top 49)) := ⟨rfl, rfl, rfl, by decide +kernel, rfl, by decide +kernel, by decide +kernel⟩
theorem w__law_refused (T : Txt K mg)
    (c__law_draw : Cal P w K mg base (clOf K) "_law_draw" 2 ["_law_left_here", "_law_base"] F_law_draw_v3)
    (c__law_tree : Cal P w K mg base (clOf K) "_law_tree" 4 ["_law_left_here", "_law_names_here"] F_law_tree_v2)
    (c__law_told : Cal P w K mg base (clOf K) "_law_told" 8 ["_law_tree_here", "_law_ranking"] F_law_told_v25) : Cal P w K mg base (clOf K) "_law_refused" 9 ["_law_left_here", "_law_names_here", "_law_tree_here", "_law_ranking"] F_law_refused_v31 := by
  have sc := sc__law_refused
  refine cal_of T.d__law_refused sc (by decide) fun f cdv A outer s H E hr => ?_
  have tk : Takes (cxOf (L2.CX P w) P w K mg base N__law_refused "_law_refused" (defScope (top 49)) f cdv A outer s H E) (fun cls d _ H => E cls d H) := takes_of rfl rfl rfl rfl
  exact ss_cons (s_set (i := 4) sc.nd rfl (by first | exact Or.inl rfl | exact Or.inr rfl) (d_lst (ae_cons d_non (ae_cons (d_lst ae_nil) (ae_cons (d_callTy call_tuple_of cd_tuple rfl T.b_tuple (by decide +kernel) (ap_cons (d_var 3) ap_nil)) (ae_cons (d_add (d_var 3) (d_slice (d_var 3) dp_none (dp_some d_int))) (ae_cons (d_lst (ae_cons d_bl ae_nil)) (ae_cons (d_add (d_slice (d_var 3) dp_none (dp_some (d_neg d_int))) (d_lst (ae_cons (d_neg d_int) ae_nil))) (ae_cons (d_lRng1 rfl rfl T.b_list rfl T.b_range d_int) (ae_cons d_str (ae_cons (d_lst (ae_cons d_non ae_nil)) ae_nil))))))))))) (ss_cons (s_set (i := 5) sc.nd rfl (by first | exact Or.inl rfl | exact Or.inr rfl) (d_ix (d_var 4) (d_cal c__law_draw (hr.mono (by decide)) (passAt tk) (ae_cons (d_var 0) (ae_cons (d_callB (CallR.or' call_len_seq call_len_str) cd_len rfl T.b_len (by decide +kernel) (ap_cons (d_var 4) ap_nil)) ae_nil))) (fun _ _ => rfl))) (ss_cons (s_set (i := 6) sc.nd rfl (by first | exact Or.inl rfl | exact Or.inr rfl) (d_callB (CallR.or' cr_sortedI (cr_sortedD hr.units)) cd_sorted rfl T.b_sorted (by decide +kernel) (ap_cons (d_add (d_slice (d_var 1) (dp_some d_int) dp_none) (d_lst (ae_cons (d_add (d_ix (d_var 1) (d_neg d_int) (fun _ _ => rfl)) d_int) ae_nil))) ap_nil))) (ss_cons (s_set (i := 7) sc.nd rfl (by first | exact Or.inl rfl | exact Or.inr rfl) (d_lst (ae_cons d_non (ae_cons (d_tup ae_nil) (ae_cons (d_callTy call_tuple_of cd_tuple rfl T.b_tuple (by decide +kernel) (ap_cons (d_var 2) ap_nil)) (ae_cons (d_add (d_var 2) (d_lst (ae_cons (d_tup (ae_cons d_int (ae_cons d_int ae_nil))) ae_nil))) (ae_cons d_str (ae_cons d_int (ae_cons (d_add (d_var 2) (d_lst (ae_cons (d_var 2) ae_nil))) (ae_cons (d_lst (ae_cons (d_lst ae_nil) ae_nil)) (ae_cons (d_cal c__law_tree (hr.mono (by decide)) (passAt tk) (ae_cons (d_var 0) (ae_cons (d_var 6) ae_nil))) ae_nil))))))))))) (ss_cons (s_if (t_eq hr.units (d_callB (CallR.or' call_len_seq call_len_str) cd_len rfl T.b_len (by decide +kernel) (ap_cons (d_var 1) ap_nil)) d_int) (ss_one (s_set (i := 7) sc.nd rfl (by first | exact Or.inl rfl | exact Or.inr rfl) (d_add (d_slice (d_var 7) dp_none (dp_some d_int)) (d_lst (ae_cons (d_lst (ae_cons (d_tup (ae_cons (d_ix (d_var 1) d_int (fun _ _ => rfl)) (ae_cons (d_ix (d_var 1) d_int (fun _ _ => rfl)) ae_nil))) ae_nil)) (ae_cons d_str ae_nil)))))) ss_nil) (ss_cons (s_set (i := 8) sc.nd rfl (by first | exact Or.inl rfl | exact Or.inr rfl) (d_ix (d_var 7) (d_cal c__law_draw (hr.mono (by decide)) (passAt tk) (ae_cons (d_var 0) (ae_cons (d_callB (CallR.or' call_len_seq call_len_str) cd_len rfl T.b_len (by decide +kernel) (ap_cons (d_var 7) ap_nil)) ae_nil))) (fun _ _ => rfl))) (ss_cons (s_if (d_tw (w_or (t_ne hr.units (d_cal c__law_told (hr.mono (by decide)) (passAt tk) (ae_cons (d_var 2) (ae_cons (d_var 5) ae_nil))) (d_lst (ae_cons d_str ae_nil))) (w_or1 (t_ne hr.units (d_cal c__law_told (hr.mono (by decide)) (passAt tk) (ae_cons (d_var 8) (ae_cons (d_var 5) ae_nil))) (d_lst (ae_cons d_str ae_nil)))))) (ss_one (s_ret d_bl)) ss_nil) (ss_one (s_ret (d_eq hr.units (d_cal c__law_told (hr.mono (by decide)) (passAt tk) (ae_cons (d_var 8) (ae_cons (d_var 3) ae_nil))) (d_lst (ae_cons d_str ae_nil)))))))))))
abbrev N_law : List Str := ["_law_script", "_law_cell", "_law_left_here", "_law_names_here", "_law_turned", "_law_tree_here", "_law_ranking", "_law_other", "_law_at", "_law_some", "_law_due", "_law_off"]
theorem sc_law : FnScope N_law ["_law_script"] (defScope (top 50)) := ⟨rfl, rfl, rfl, by decide +kernel, rfl, by decide +kernel, by decide +kernel⟩
theorem w_law (T : Txt K mg) (hp : LawOkS 12 p_law_k71)
    (c__law_left : Cal P w K mg base (clOf K) "_law_left" 1 ["_law_cell"] F_law_left)
    (c__law_draw : Cal P w K mg base (clOf K) "_law_draw" 2 ["_law_left_here", "_law_base"] F_law_draw_v3)
    (c__law_names : Cal P w K mg base (clOf K) "_law_names" 3 ["_law_left_here", "_law_many"] F_law_names_v6)
    (c__law_shuffled : Cal P w K mg base (clOf K) "_law_shuffled" 3 ["_law_left_here", "_law_things"] F_law_shuffled_v3)
    (c__law_tree : Cal P w K mg base (clOf K) "_law_tree" 4 ["_law_left_here", "_law_names_here"] F_law_tree_v2)
    (c__law_falling : Cal P w K mg base (clOf K) "_law_falling" 3 ["_law_left_here", "_law_names_here", "_law_tree_here"] F_law_falling_v3)
    (c__law_apart : Cal P w K mg base (clOf K) "_law_apart" 2 ["_law_tree_here", "_law_ranking"] F_law_apart)
    (c__law_told : Cal P w K mg base (clOf K) "_law_told" 8 ["_law_tree_here", "_law_ranking"] F_law_told_v25)
    (c__law_put_off : Cal P w K mg base (clOf K) "_law_put_off" 1 ["_law_tree_here", "_law_ranking", "_law_turned"] F_law_put_off_v3)
    (c__law_refused : Cal P w K mg base (clOf K) "_law_refused" 9 ["_law_left_here", "_law_names_here", "_law_tree_here", "_law_ranking"] F_law_refused_v31) {f : Addr} {fd : FuncData} (F : Fun K "law" "law" (top 50) f fd) : FnG P w K mg base (L2.CX P w) 10 f fd ["_law_script"] (spLaw K) := by
  have sc := sc_law
  refine law_ok2 (cl := clOf K) F sc (fun f cdv A outer s H E hr => ?_) hp
  have tk : Takes (cxOf (L2.CX P w) P w K mg base N_law "law" (defScope (top 50)) f cdv A outer s H E) (fun cls d _ H => E cls d H) := takes_of rfl rfl rfl rfl
  exact ss_cons (s_forW (k := 2) (passes_of rfl) rfl (i_list (d_add (d_lst (ae_cons d_int ae_nil)) (d_scCut (k := 5) (d_var 0)))) (pg_name (i := 1) sc.nd rfl (by first | exact Or.inl rfl | exact Or.inr rfl)) (g_name 1) sc.nd rfl (by first | exact Or.inl rfl | exact Or.inr rfl) (d_cal c__law_left (hr.mono (by decide)) (passAt tk) (ae_cons (d_var 1) ae_nil)) (ss_cons (s_set (i := 3) sc.nd rfl (by first | exact Or.inl rfl | exact Or.inr rfl) (d_cal c__law_names (hr.mono (by decide)) (passAt tk) (ae_cons (d_var 2) (ae_cons (d_add d_int (d_cal c__law_draw (hr.mono (by decide)) (passAt tk) (ae_cons (d_var 2) (ae_cons d_int ae_nil)))) ae_nil)))) (ss_cons (s_set (i := 4) sc.nd rfl (by first | exact Or.inl rfl | exact Or.inr rfl) (d_dictZip rfl rfl T.b_dict rfl T.b_zip (ae_cons (d_var 3) (ae_cons (d_cal c__law_names (hr.mono (by decide)) (passAt tk) (ae_cons (d_var 2) (ae_cons (d_callB (CallR.or' call_len_seq call_len_str) cd_len rfl T.b_len (by decide +kernel) (ap_cons (d_var 3) ap_nil)) ae_nil))) ae_nil)))) (ss_cons (s_set (i := 5) sc.nd rfl (by first | exact Or.inl rfl | exact Or.inr rfl) (d_cal c__law_tree (hr.mono (by decide)) (passAt tk) (ae_cons (d_var 2) (ae_cons (d_var 3) ae_nil)))) (ss_cons (s_set (i := 6) sc.nd rfl (by first | exact Or.inl rfl | exact Or.inr rfl) (d_cal c__law_falling (hr.mono (by decide)) (passAt tk) (ae_cons (d_var 2) (ae_cons (d_var 3) (ae_cons (d_var 5) ae_nil))))) (ss_cons (s_if (t_notN (d_cal c__law_told (hr.mono (by decide)) (passAt tk) (ae_cons (d_var 5) (ae_cons (d_var 6) ae_nil)))) (ss_one (s_ret d_bl)) ss_nil) (ss_cons (s_set (i := 7) sc.nd rfl (by first | exact Or.inl rfl | exact Or.inr rfl) (d_callTy call_list_of cd_list rfl T.b_list (by decide +kernel) (ap_cons (d_var 6) ap_nil))) (ss_cons (s_if (t_gt (d_callB (CallR.or' call_len_seq call_len_str) cd_len rfl T.b_len (by decide +kernel) (ap_cons (d_var 3) ap_nil)) d_int) (ss_cons (s_set (i := 8) sc.nd rfl (by first | exact Or.inl rfl | exact Or.inr rfl) (d_cal c__law_draw (hr.mono (by decide)) (passAt tk) (ae_cons (d_var 2) (ae_cons (d_sub (d_callB (CallR.or' call_len_seq call_len_str) cd_len rfl T.b_len (by decide +kernel) (ap_cons (d_var 3) ap_nil)) d_int) ae_nil)))) (ss_one (s_set (i := 7) sc.nd rfl (by first | exact Or.inl rfl | exact Or.inr rfl) (d_add (d_add (d_slice (d_var 6) dp_none (dp_some (d_var 8))) (d_lst (ae_cons (d_ix (d_var 6) (d_add (d_var 8) d_int) (fun _ _ => rfl)) (ae_cons (d_ix (d_var 6) (d_var 8) (fun _ _ => rfl)) ae_nil)))) (d_slice (d_var 6) (dp_some (d_add (d_var 8) d_int)) dp_none))))) ss_nil) (ss_cons (s_for (passes_of rfl) rfl (i_list (d_lst (ae_cons (d_var 7) (ae_cons (d_cal c__law_shuffled (hr.mono (by decide)) (passAt tk) (ae_cons (d_var 2) (ae_cons (d_var 3) ae_nil))) ae_nil)))) (pg_name (i := 9) sc.nd rfl (by first | exact Or.inl rfl | exact Or.inr rfl)) (g_name 9) (ss_cons (s_set (i := 10) sc.nd rfl (by first | exact Or.inl rfl | exact Or.inr rfl) (d_cal c__law_apart (hr.mono (by decide)) (passAt tk) (ae_cons (d_var 5) (ae_cons (d_var 9) ae_nil)))) (ss_cons (s_set (i := 11) sc.nd rfl (by first | exact Or.inl rfl | exact Or.inr rfl) (d_cal c__law_put_off (hr.mono (by decide)) (passAt tk) (ae_cons (d_var 5) (ae_cons (d_var 9) (ae_cons (d_var 4) ae_nil))))) (ss_one (s_if (d_tw (w_or (t_ne hr.units (d_cal c__law_told (hr.mono (by decide)) (passAt tk) (ae_cons (d_var 5) (ae_cons (d_var 9) ae_nil))) (d_var 10)) (w_or1 (t_ne hr.units (d_cal c__law_told (hr.mono (by decide)) (passAt tk) (ae_cons (d_ix (d_var 11) d_int (fun _ _ => rfl)) (ae_cons (d_ix (d_var 11) d_int (fun _ _ => rfl)) ae_nil))) (d_var 10))))) (ss_one (s_ret d_bl)) ss_nil))))) (ss_one (s_if (d_tnot (d_tval (d_cal c__law_refused (hr.mono (by decide)) (passAt tk) (ae_cons (d_var 2) (ae_cons (d_var 3) (ae_cons (d_var 5) (ae_cons (d_var 6) ae_nil))))))) (ss_one (s_ret d_bl)) ss_nil))))))))))) (ss_one (s_ret d_bl))
end
theorem all_mk {P : Program} {w : World} {K : PySem.W.Frag} {h : Heap} {mg : Str → Option Value} {fa : Addr} (X : K.In h) (G : h.Ns mainGlobals mg) (hfa : mg "law" = some (.ref fa)) {f_is_number : Addr} {od_is_number an_is_number : Option Addr} {sl_is_number : Array (Option Value)} {oc_is_number kV_is_number dc_is_number pm_is_number cd_is_number ct_is_number : Value} {f_are_unlike_names : Addr} {od_are_unlike_names an_are_unlike_names : Option Addr} {sl_are_unlike_names : Array (Option Value)} {oc_are_unlike_names kV_are_unlike_names dc_are_unlike_names pm_are_unlike_names cd_are_unlike_names ct_are_unlike_names : Value} {f_is_ranking : Addr} {od_is_ranking an_is_ranking : Option Addr} {sl_is_ranking : Array (Option Value)} {oc_is_ranking kV_is_ranking dc_is_ranking pm_is_ranking cd_is_ranking ct_is_ranking : Value} {f_must_be_ranking : Addr} {od_must_be_ranking an_must_be_ranking : Option Addr} {sl_must_be_ranking : Array (Option Value)} {oc_must_be_ranking kV_must_be_ranking dc_must_be_ranking pm_must_be_ranking cd_must_be_ranking ct_must_be_ranking : Value} {f_is_tie : Addr} {od_is_tie an_is_tie : Option Addr} {sl_is_tie : Array (Option Value)} {oc_is_tie kV_is_tie dc_is_tie pm_is_tie cd_is_tie ct_is_tie : Value} {f_reached : Addr} {od_reached an_reached : Option Addr} {sl_reached : Array (Option Value)} {oc_reached kV_reached dc_reached pm_reached cd_reached ct_reached : Value} {f_hang_together : Addr} {od_hang_together an_hang_together : Option Addr} {sl_hang_together : Array (Option Value)} {oc_hang_together kV_hang_together dc_hang_together pm_hang_together cd_hang_together ct_hang_together : Value} {f_is_right_tree : Addr} {od_is_right_tree an_is_right_tree : Option Addr} {sl_is_right_tree : Array (Option Value)} {oc_is_right_tree kV_is_right_tree dc_is_right_tree pm_is_right_tree cd_is_right_tree ct_is_right_tree : Value} {f_must_be_tree : Addr} {od_must_be_tree an_must_be_tree : Option Addr} {sl_must_be_tree : Array (Option Value)} {oc_must_be_tree kV_must_be_tree dc_must_be_tree pm_must_be_tree cd_must_be_tree ct_must_be_tree : Value} {f_apart_at : Addr} {od_apart_at an_apart_at : Option Addr} {sl_apart_at : Array (Option Value)} {oc_apart_at kV_apart_at dc_apart_at pm_apart_at cd_apart_at ct_apart_at : Value} {f_first_apart : Addr} {od_first_apart an_first_apart : Option Addr} {sl_first_apart : Array (Option Value)} {oc_first_apart kV_first_apart dc_first_apart pm_first_apart cd_first_apart ct_first_apart : Value} {f__law_mix : Addr} {od__law_mix an__law_mix : Option Addr} {sl__law_mix : Array (Option Value)} {oc__law_mix kV__law_mix dc__law_mix pm__law_mix cd__law_mix ct__law_mix : Value} {f__law_left : Addr} {od__law_left an__law_left : Option Addr} {sl__law_left : Array (Option Value)} {oc__law_left kV__law_left dc__law_left pm__law_left cd__law_left ct__law_left : Value} {f__law_draw : Addr} {od__law_draw an__law_draw : Option Addr} {sl__law_draw : Array (Option Value)} {oc__law_draw kV__law_draw dc__law_draw pm__law_draw cd__law_draw ct__law_draw : Value} {f__law_names : Addr} {od__law_names an__law_names : Option Addr} {sl__law_names : Array (Option Value)} {oc__law_names kV__law_names dc__law_names pm__law_names cd__law_names ct__law_names : Value} {f__law_shuffled : Addr} {od__law_shuffled an__law_shuffled : Option Addr} {sl__law_shuffled : Array (Option Value)} {oc__law_shuffled kV__law_shuffled dc__law_shuffled pm__law_shuffled cd__law_shuffled ct__law_shuffled : Value} {f__law_tree : Addr} {od__law_tree an__law_tree : Option Addr} {sl__law_tree : Array (Option Value)} {oc__law_tree kV__law_tree dc__law_tree pm__law_tree cd__law_tree ct__law_tree : Value} {f__law_falling : Addr} {od__law_falling an__law_falling : Option Addr} {sl__law_falling : Array (Option Value)} {oc__law_falling kV__law_falling dc__law_falling pm__law_falling cd__law_falling ct__law_falling : Value} {f__law_together : Addr} {od__law_together an__law_together : Option Addr} {sl__law_together : Array (Option Value)} {oc__law_together kV__law_together dc__law_together pm__law_together cd__law_together ct__law_together : Value} {f__law_apart : Addr} {od__law_apart an__law_apart : Option Addr} {sl__law_apart : Array (Option Value)} {oc__law_apart kV__law_apart dc__law_apart pm__law_apart cd__law_apart ct__law_apart : Value} {f__law_marks : Addr} {od__law_marks an__law_marks : Option Addr} {sl__law_marks : Array (Option Value)} {oc__law_marks kV__law_marks dc__law_marks pm__law_marks cd__law_marks ct__law_marks : Value} {f__law_copied : Addr} {od__law_copied an__law_copied : Option Addr} {sl__law_copied : Array (Option Value)} {oc__law_copied kV__law_copied dc__law_copied pm__law_copied cd__law_copied ct__law_copied : Value} {f__law_told : Addr} {od__law_told an__law_told : Option Addr} {sl__law_told : Array (Option Value)} {oc__law_told kV__law_told dc__law_told pm__law_told cd__law_told ct__law_told : Value} {f__law_put_off : Addr} {od__law_put_off an__law_put_off : Option Addr} {sl__law_put_off : Array (Option Value)} {oc__law_put_off kV__law_put_off dc__law_put_off pm__law_put_off cd__law_put_off ct__law_put_off : Value} {f__law_refused : Addr} {od__law_refused an__law_refused : Option Addr} {sl__law_refused : Array (Option Value)} {oc__law_refused kV__law_refused dc__law_refused pm__law_refused cd__law_refused ct__law_refused : Value} {f_law : Addr} {od_law an_law : Option Addr} {sl_law : Array (Option Value)} {oc_law kV_law dc_law pm_law cd_law ct_law : Value} {t_MOST_NAMES : Tok} {C_NoRanking : Addr} {C_NoTree : Addr} {C_FolkError : Addr} {C_NoBack : Addr} {C_NoFall : Addr} {C_NoFit : Addr} {C_NoFixed : Addr} {C_NoFolk : Addr} {C_NoHand : Addr} {C_NoLine : Addr} {C_NoNames : Addr} {C_NoNumber : Addr} {C_NoPaper : Addr} {C_NoRow : Addr} {C_NoRule : Addr} {C_NoText : Addr} {C_NoTitle : Addr} {C_NoTops : Addr} {C_NoWeights : Addr} {C_TooGreat : Addr}
    (a_is_number : PySem.W.nsIn K mainGlobals "is_number" = some (some (.ref f_is_number))) (l_is_number : K.lookup f_is_number = some ⟨oc_is_number, od_is_number, .func (PySem.W.fnOf "is_number" "is_number" (defArgs (top 23)) (defBody (top 23)) (defScope (top 23)) .none kV_is_number dc_is_number pm_is_number an_is_number cd_is_number ct_is_number), sl_is_number⟩) (c_is_number : PySem.W.codeIn K cd_is_number "is_number" = true) (k_is_number : PySem.W.keepIn K (.ref f_is_number) = true)
    (a_are_unlike_names : PySem.W.nsIn K mainGlobals "are_unlike_names" = some (some (.ref f_are_unlike_names))) (l_are_unlike_names : K.lookup f_are_unlike_names = some ⟨oc_are_unlike_names, od_are_unlike_names, .func (PySem.W.fnOf "are_unlike_names" "are_unlike_names" (defArgs (top 24)) (defBody (top 24)) (defScope (top 24)) .none kV_are_unlike_names dc_are_unlike_names pm_are_unlike_names an_are_unlike_names cd_are_unlike_names ct_are_unlike_names), sl_are_unlike_names⟩) (c_are_unlike_names : PySem.W.codeIn K cd_are_unlike_names "are_unlike_names" = true) (k_are_unlike_names : PySem.W.keepIn K (.ref f_are_unlike_names) = true)
    (a_is_ranking : PySem.W.nsIn K mainGlobals "is_ranking" = some (some (.ref f_is_ranking))) (l_is_ranking : K.lookup f_is_ranking = some ⟨oc_is_ranking, od_is_ranking, .func (PySem.W.fnOf "is_ranking" "is_ranking" (defArgs (top 25)) (defBody (top 25)) (defScope (top 25)) .none kV_is_ranking dc_is_ranking pm_is_ranking an_is_ranking cd_is_ranking ct_is_ranking), sl_is_ranking⟩) (c_is_ranking : PySem.W.codeIn K cd_is_ranking "is_ranking" = true) (k_is_ranking : PySem.W.keepIn K (.ref f_is_ranking) = true)
    (a_must_be_ranking : PySem.W.nsIn K mainGlobals "must_be_ranking" = some (some (.ref f_must_be_ranking))) (l_must_be_ranking : K.lookup f_must_be_ranking = some ⟨oc_must_be_ranking, od_must_be_ranking, .func (PySem.W.fnOf "must_be_ranking" "must_be_ranking" (defArgs (top 26)) (defBody (top 26)) (defScope (top 26)) .none kV_must_be_ranking dc_must_be_ranking pm_must_be_ranking an_must_be_ranking cd_must_be_ranking ct_must_be_ranking), sl_must_be_ranking⟩) (c_must_be_ranking : PySem.W.codeIn K cd_must_be_ranking "must_be_ranking" = true) (k_must_be_ranking : PySem.W.keepIn K (.ref f_must_be_ranking) = true)
    (a_is_tie : PySem.W.nsIn K mainGlobals "is_tie" = some (some (.ref f_is_tie))) (l_is_tie : K.lookup f_is_tie = some ⟨oc_is_tie, od_is_tie, .func (PySem.W.fnOf "is_tie" "is_tie" (defArgs (top 28)) (defBody (top 28)) (defScope (top 28)) .none kV_is_tie dc_is_tie pm_is_tie an_is_tie cd_is_tie ct_is_tie), sl_is_tie⟩) (c_is_tie : PySem.W.codeIn K cd_is_tie "is_tie" = true) (k_is_tie : PySem.W.keepIn K (.ref f_is_tie) = true)
    (a_reached : PySem.W.nsIn K mainGlobals "reached" = some (some (.ref f_reached))) (l_reached : K.lookup f_reached = some ⟨oc_reached, od_reached, .func (PySem.W.fnOf "reached" "reached" (defArgs (top 29)) (defBody (top 29)) (defScope (top 29)) .none kV_reached dc_reached pm_reached an_reached cd_reached ct_reached), sl_reached⟩) (c_reached : PySem.W.codeIn K cd_reached "reached" = true) (k_reached : PySem.W.keepIn K (.ref f_reached) = true)
    (a_hang_together : PySem.W.nsIn K mainGlobals "hang_together" = some (some (.ref f_hang_together))) (l_hang_together : K.lookup f_hang_together = some ⟨oc_hang_together, od_hang_together, .func (PySem.W.fnOf "hang_together" "hang_together" (defArgs (top 30)) (defBody (top 30)) (defScope (top 30)) .none kV_hang_together dc_hang_together pm_hang_together an_hang_together cd_hang_together ct_hang_together), sl_hang_together⟩) (c_hang_together : PySem.W.codeIn K cd_hang_together "hang_together" = true) (k_hang_together : PySem.W.keepIn K (.ref f_hang_together) = true)
    (a_is_right_tree : PySem.W.nsIn K mainGlobals "is_right_tree" = some (some (.ref f_is_right_tree))) (l_is_right_tree : K.lookup f_is_right_tree = some ⟨oc_is_right_tree, od_is_right_tree, .func (PySem.W.fnOf "is_right_tree" "is_right_tree" (defArgs (top 31)) (defBody (top 31)) (defScope (top 31)) .none kV_is_right_tree dc_is_right_tree pm_is_right_tree an_is_right_tree cd_is_right_tree ct_is_right_tree), sl_is_right_tree⟩) (c_is_right_tree : PySem.W.codeIn K cd_is_right_tree "is_right_tree" = true) (k_is_right_tree : PySem.W.keepIn K (.ref f_is_right_tree) = true)
    (a_must_be_tree : PySem.W.nsIn K mainGlobals "must_be_tree" = some (some (.ref f_must_be_tree))) (l_must_be_tree : K.lookup f_must_be_tree = some ⟨oc_must_be_tree, od_must_be_tree, .func (PySem.W.fnOf "must_be_tree" "must_be_tree" (defArgs (top 32)) (defBody (top 32)) (defScope (top 32)) .none kV_must_be_tree dc_must_be_tree pm_must_be_tree an_must_be_tree cd_must_be_tree ct_must_be_tree), sl_must_be_tree⟩) (c_must_be_tree : PySem.W.codeIn K cd_must_be_tree "must_be_tree" = true) (k_must_be_tree : PySem.W.keepIn K (.ref f_must_be_tree) = true)
    (a_apart_at : PySem.W.nsIn K mainGlobals "apart_at" = some (some (.ref f_apart_at))) (l_apart_at : K.lookup f_apart_at = some ⟨oc_apart_at, od_apart_at, .func (PySem.W.fnOf "apart_at" "apart_at" (defArgs (top 33)) (defBody (top 33)) (defScope (top 33)) .none kV_apart_at dc_apart_at pm_apart_at an_apart_at cd_apart_at ct_apart_at), sl_apart_at⟩) (c_apart_at : PySem.W.codeIn K cd_apart_at "apart_at" = true) (k_apart_at : PySem.W.keepIn K (.ref f_apart_at) = true)
    (a_first_apart : PySem.W.nsIn K mainGlobals "first_apart" = some (some (.ref f_first_apart))) (l_first_apart : K.lookup f_first_apart = some ⟨oc_first_apart, od_first_apart, .func (PySem.W.fnOf "first_apart" "first_apart" (defArgs (top 34)) (defBody (top 34)) (defScope (top 34)) .none kV_first_apart dc_first_apart pm_first_apart an_first_apart cd_first_apart ct_first_apart), sl_first_apart⟩) (c_first_apart : PySem.W.codeIn K cd_first_apart "first_apart" = true) (k_first_apart : PySem.W.keepIn K (.ref f_first_apart) = true)
    (a__law_mix : PySem.W.nsIn K mainGlobals "_law_mix" = some (some (.ref f__law_mix))) (l__law_mix : K.lookup f__law_mix = some ⟨oc__law_mix, od__law_mix, .func (PySem.W.fnOf "_law_mix" "_law_mix" (defArgs (top 36)) (defBody (top 36)) (defScope (top 36)) .none kV__law_mix dc__law_mix pm__law_mix an__law_mix cd__law_mix ct__law_mix), sl__law_mix⟩) (c__law_mix : PySem.W.codeIn K cd__law_mix "_law_mix" = true) (k__law_mix : PySem.W.keepIn K (.ref f__law_mix) = true)
    (a__law_left : PySem.W.nsIn K mainGlobals "_law_left" = some (some (.ref f__law_left))) (l__law_left : K.lookup f__law_left = some ⟨oc__law_left, od__law_left, .func (PySem.W.fnOf "_law_left" "_law_left" (defArgs (top 37)) (defBody (top 37)) (defScope (top 37)) .none kV__law_left dc__law_left pm__law_left an__law_left cd__law_left ct__law_left), sl__law_left⟩) (c__law_left : PySem.W.codeIn K cd__law_left "_law_left" = true) (k__law_left : PySem.W.keepIn K (.ref f__law_left) = true)
    (a__law_draw : PySem.W.nsIn K mainGlobals "_law_draw" = some (some (.ref f__law_draw))) (l__law_draw : K.lookup f__law_draw = some ⟨oc__law_draw, od__law_draw, .func (PySem.W.fnOf "_law_draw" "_law_draw" (defArgs (top 38)) (defBody (top 38)) (defScope (top 38)) .none kV__law_draw dc__law_draw pm__law_draw an__law_draw cd__law_draw ct__law_draw), sl__law_draw⟩) (c__law_draw : PySem.W.codeIn K cd__law_draw "_law_draw" = true) (k__law_draw : PySem.W.keepIn K (.ref f__law_draw) = true)
    (a__law_names : PySem.W.nsIn K mainGlobals "_law_names" = some (some (.ref f__law_names))) (l__law_names : K.lookup f__law_names = some ⟨oc__law_names, od__law_names, .func (PySem.W.fnOf "_law_names" "_law_names" (defArgs (top 39)) (defBody (top 39)) (defScope (top 39)) .none kV__law_names dc__law_names pm__law_names an__law_names cd__law_names ct__law_names), sl__law_names⟩) (c__law_names : PySem.W.codeIn K cd__law_names "_law_names" = true) (k__law_names : PySem.W.keepIn K (.ref f__law_names) = true)
    (a__law_shuffled : PySem.W.nsIn K mainGlobals "_law_shuffled" = some (some (.ref f__law_shuffled))) (l__law_shuffled : K.lookup f__law_shuffled = some ⟨oc__law_shuffled, od__law_shuffled, .func (PySem.W.fnOf "_law_shuffled" "_law_shuffled" (defArgs (top 40)) (defBody (top 40)) (defScope (top 40)) .none kV__law_shuffled dc__law_shuffled pm__law_shuffled an__law_shuffled cd__law_shuffled ct__law_shuffled), sl__law_shuffled⟩) (c__law_shuffled : PySem.W.codeIn K cd__law_shuffled "_law_shuffled" = true) (k__law_shuffled : PySem.W.keepIn K (.ref f__law_shuffled) = true)
    (a__law_tree : PySem.W.nsIn K mainGlobals "_law_tree" = some (some (.ref f__law_tree))) (l__law_tree : K.lookup f__law_tree = some ⟨oc__law_tree, od__law_tree, .func (PySem.W.fnOf "_law_tree" "_law_tree" (defArgs (top 41)) (defBody (top 41)) (defScope (top 41)) .none kV__law_tree dc__law_tree pm__law_tree an__law_tree cd__law_tree ct__law_tree), sl__law_tree⟩) (c__law_tree : PySem.W.codeIn K cd__law_tree "_law_tree" = true) (k__law_tree : PySem.W.keepIn K (.ref f__law_tree) = true)
    (a__law_falling : PySem.W.nsIn K mainGlobals "_law_falling" = some (some (.ref f__law_falling))) (l__law_falling : K.lookup f__law_falling = some ⟨oc__law_falling, od__law_falling, .func (PySem.W.fnOf "_law_falling" "_law_falling" (defArgs (top 42)) (defBody (top 42)) (defScope (top 42)) .none kV__law_falling dc__law_falling pm__law_falling an__law_falling cd__law_falling ct__law_falling), sl__law_falling⟩) (c__law_falling : PySem.W.codeIn K cd__law_falling "_law_falling" = true) (k__law_falling : PySem.W.keepIn K (.ref f__law_falling) = true)
    (a__law_together : PySem.W.nsIn K mainGlobals "_law_together" = some (some (.ref f__law_together))) (l__law_together : K.lookup f__law_together = some ⟨oc__law_together, od__law_together, .func (PySem.W.fnOf "_law_together" "_law_together" (defArgs (top 43)) (defBody (top 43)) (defScope (top 43)) .none kV__law_together dc__law_together pm__law_together an__law_together cd__law_together ct__law_together), sl__law_together⟩) (c__law_together : PySem.W.codeIn K cd__law_together "_law_together" = true) (k__law_together : PySem.W.keepIn K (.ref f__law_together) = true)
    (a__law_apart : PySem.W.nsIn K mainGlobals "_law_apart" = some (some (.ref f__law_apart))) (l__law_apart : K.lookup f__law_apart = some ⟨oc__law_apart, od__law_apart, .func (PySem.W.fnOf "_law_apart" "_law_apart" (defArgs (top 44)) (defBody (top 44)) (defScope (top 44)) .none kV__law_apart dc__law_apart pm__law_apart an__law_apart cd__law_apart ct__law_apart), sl__law_apart⟩) (c__law_apart : PySem.W.codeIn K cd__law_apart "_law_apart" = true) (k__law_apart : PySem.W.keepIn K (.ref f__law_apart) = true)
    (a__law_marks : PySem.W.nsIn K mainGlobals "_law_marks" = some (some (.ref f__law_marks))) (l__law_marks : K.lookup f__law_marks = some ⟨oc__law_marks, od__law_marks, .func (PySem.W.fnOf "_law_marks" "_law_marks" (defArgs (top 45)) (defBody (top 45)) (defScope (top 45)) .none kV__law_marks dc__law_marks pm__law_marks an__law_marks cd__law_marks ct__law_marks), sl__law_marks⟩) (c__law_marks : PySem.W.codeIn K cd__law_marks "_law_marks" = true) (k__law_marks : PySem.W.keepIn K (.ref f__law_marks) = true)
    (a__law_copied : PySem.W.nsIn K mainGlobals "_law_copied" = some (some (.ref f__law_copied))) (l__law_copied : K.lookup f__law_copied = some ⟨oc__law_copied, od__law_copied, .func (PySem.W.fnOf "_law_copied" "_law_copied" (defArgs (top 46)) (defBody (top 46)) (defScope (top 46)) .none kV__law_copied dc__law_copied pm__law_copied an__law_copied cd__law_copied ct__law_copied), sl__law_copied⟩) (c__law_copied : PySem.W.codeIn K cd__law_copied "_law_copied" = true) (k__law_copied : PySem.W.keepIn K (.ref f__law_copied) = true)
    (a__law_told : PySem.W.nsIn K mainGlobals "_law_told" = some (some (.ref f__law_told))) (l__law_told : K.lookup f__law_told = some ⟨oc__law_told, od__law_told, .func (PySem.W.fnOf "_law_told" "_law_told" (defArgs (top 47)) (defBody (top 47)) (defScope (top 47)) .none kV__law_told dc__law_told pm__law_told an__law_told cd__law_told ct__law_told), sl__law_told⟩) (c__law_told : PySem.W.codeIn K cd__law_told "_law_told" = true) (k__law_told : PySem.W.keepIn K (.ref f__law_told) = true)
    (a__law_put_off : PySem.W.nsIn K mainGlobals "_law_put_off" = some (some (.ref f__law_put_off))) (l__law_put_off : K.lookup f__law_put_off = some ⟨oc__law_put_off, od__law_put_off, .func (PySem.W.fnOf "_law_put_off" "_law_put_off" (defArgs (top 48)) (defBody (top 48)) (defScope (top 48)) .none kV__law_put_off dc__law_put_off pm__law_put_off an__law_put_off cd__law_put_off ct__law_put_off), sl__law_put_off⟩) (c__law_put_off : PySem.W.codeIn K cd__law_put_off "_law_put_off" = true) (k__law_put_off : PySem.W.keepIn K (.ref f__law_put_off) = true)
    (a__law_refused : PySem.W.nsIn K mainGlobals "_law_refused" = some (some (.ref f__law_refused))) (l__law_refused : K.lookup f__law_refused = some ⟨oc__law_refused, od__law_refused, .func (PySem.W.fnOf "_law_refused" "_law_refused" (defArgs (top 49)) (defBody (top 49)) (defScope (top 49)) .none kV__law_refused dc__law_refused pm__law_refused an__law_refused cd__law_refused ct__law_refused), sl__law_refused⟩) (c__law_refused : PySem.W.codeIn K cd__law_refused "_law_refused" = true) (k__law_refused : PySem.W.keepIn K (.ref f__law_refused) = true)
    (a_law : PySem.W.nsIn K mainGlobals "law" = some (some (.ref f_law))) (l_law : K.lookup f_law = some ⟨oc_law, od_law, .func (PySem.W.fnOf "law" "law" (defArgs (top 50)) (defBody (top 50)) (defScope (top 50)) .none kV_law dc_law pm_law an_law cd_law ct_law), sl_law⟩) (c_law : PySem.W.codeIn K cd_law "law" = true) (k_law : PySem.W.keepIn K (.ref f_law) = true)
    (z_isinstance : PySem.W.nsIn K mainGlobals "isinstance" = some none)
    (z_int : PySem.W.nsIn K mainGlobals "int" = some none)
    (z_bool : PySem.W.nsIn K mainGlobals "bool" = some none)
    (z_len : PySem.W.nsIn K mainGlobals "len" = some none)
    (z_list : PySem.W.nsIn K mainGlobals "list" = some none)
    (z_all : PySem.W.nsIn K mainGlobals "all" = some none)
    (z_set : PySem.W.nsIn K mainGlobals "set" = some none)
    (z_tuple : PySem.W.nsIn K mainGlobals "tuple" = some none)
    (z_sorted : PySem.W.nsIn K mainGlobals "sorted" = some none)
    (z_range : PySem.W.nsIn K mainGlobals "range" = some none)
    (z_min : PySem.W.nsIn K mainGlobals "min" = some none)
    (z_max : PySem.W.nsIn K mainGlobals "max" = some none)
    (z_ValueError : PySem.W.nsIn K mainGlobals "ValueError" = some none)
    (z_zip : PySem.W.nsIn K mainGlobals "zip" = some none)
    (z_dict : PySem.W.nsIn K mainGlobals "dict" = some none)
    (g_MOST_NAMES : PySem.W.nsIn K mainGlobals "MOST_NAMES" = some (some (.int 10 t_MOST_NAMES)))
    (ca_NoRanking : PySem.W.nsIn K mainGlobals "NoRanking" = some (some (.ref C_NoRanking)))
    (cb_NoRanking : PySem.W.subIn K (.ref C_NoRanking) (.type "BaseException") = some true)
    (ct_NoRanking : PySem.W.typeIn K (.ref C_NoRanking) = some (.type "type"))
    (cd_NoRanking : PySem.W.hasDictIn K C_NoRanking = true)
    (ca_NoTree : PySem.W.nsIn K mainGlobals "NoTree" = some (some (.ref C_NoTree)))
    (cb_NoTree : PySem.W.subIn K (.ref C_NoTree) (.type "BaseException") = some true)
    (ct_NoTree : PySem.W.typeIn K (.ref C_NoTree) = some (.type "type"))
    (cd_NoTree : PySem.W.hasDictIn K C_NoTree = true)
    (ca_FolkError : PySem.W.nsIn K mainGlobals "FolkError" = some (some (.ref C_FolkError)))
    (cb_FolkError : PySem.W.subIn K (.ref C_FolkError) (.type "BaseException") = some true)
    (ct_FolkError : PySem.W.typeIn K (.ref C_FolkError) = some (.type "type"))
    (cd_FolkError : PySem.W.hasDictIn K C_FolkError = true)
    (cx_NoRanking : PySem.W.excIn K C_NoRanking [.type "ValueError", .type "Exception", .type "BaseException", .type "object"] "ValueError.__new__" = true)
    (ck_NoRanking : PySem.W.keepIn K (.ref C_NoRanking) = true)
    (cv_NoRanking : PySem.W.subIn K (.ref C_NoRanking) (.type "ValueError") = some true)
    (cg_NoRanking : PySem.W.findIn K (.ref C_NoRanking) "__getattribute__" = some (some (.builtin "BaseException.__getattribute__")))
    (ch_NoRanking : PySem.W.findIn K (.ref C_NoRanking) "__getattr__" = some none)
    (cc_NoRanking : PySem.W.findIn K (.ref C_NoRanking) "__class__" = some (some (.builtin "object.__class__")))
    (cm_NoRanking : PySem.W.mroIn K C_NoRanking (.type "object") = some true)
    (cf_NoRanking : PySem.W.subIn K (.ref C_NoRanking) (.ref C_FolkError) = some true)
    (cp_NoRanking_NoRanking : PySem.W.subIn K (.ref C_NoRanking) (.ref C_NoRanking) = some true)
    (cp_NoRanking_NoTree : PySem.W.subIn K (.ref C_NoRanking) (.ref C_NoTree) = some false)
    (cx_NoTree : PySem.W.excIn K C_NoTree [.type "ValueError", .type "Exception", .type "BaseException", .type "object"] "ValueError.__new__" = true)
    (ck_NoTree : PySem.W.keepIn K (.ref C_NoTree) = true)
    (cv_NoTree : PySem.W.subIn K (.ref C_NoTree) (.type "ValueError") = some true)
    (cg_NoTree : PySem.W.findIn K (.ref C_NoTree) "__getattribute__" = some (some (.builtin "BaseException.__getattribute__")))
    (ch_NoTree : PySem.W.findIn K (.ref C_NoTree) "__getattr__" = some none)
    (cc_NoTree : PySem.W.findIn K (.ref C_NoTree) "__class__" = some (some (.builtin "object.__class__")))
    (cm_NoTree : PySem.W.mroIn K C_NoTree (.type "object") = some true)
    (cf_NoTree : PySem.W.subIn K (.ref C_NoTree) (.ref C_FolkError) = some true)
    (cp_NoTree_NoRanking : PySem.W.subIn K (.ref C_NoTree) (.ref C_NoRanking) = some false)
    (cp_NoTree_NoTree : PySem.W.subIn K (.ref C_NoTree) (.ref C_NoTree) = some true)
    (ca_NoBack : PySem.W.nsIn K mainGlobals "NoBack" = some (some (.ref C_NoBack)))
    (ct_NoBack : PySem.W.typeIn K (.ref C_NoBack) = some (.type "type"))
    (cd_NoBack : PySem.W.hasDictIn K C_NoBack = true)
    (cp_NoRanking_NoBack : PySem.W.subIn K (.ref C_NoRanking) (.ref C_NoBack) = some false)
    (cp_NoTree_NoBack : PySem.W.subIn K (.ref C_NoTree) (.ref C_NoBack) = some false)
    (ca_NoFall : PySem.W.nsIn K mainGlobals "NoFall" = some (some (.ref C_NoFall)))
    (ct_NoFall : PySem.W.typeIn K (.ref C_NoFall) = some (.type "type"))
    (cd_NoFall : PySem.W.hasDictIn K C_NoFall = true)
    (cp_NoRanking_NoFall : PySem.W.subIn K (.ref C_NoRanking) (.ref C_NoFall) = some false)
    (cp_NoTree_NoFall : PySem.W.subIn K (.ref C_NoTree) (.ref C_NoFall) = some false)
    (ca_NoFit : PySem.W.nsIn K mainGlobals "NoFit" = some (some (.ref C_NoFit)))
    (ct_NoFit : PySem.W.typeIn K (.ref C_NoFit) = some (.type "type"))
    (cd_NoFit : PySem.W.hasDictIn K C_NoFit = true)
    (cp_NoRanking_NoFit : PySem.W.subIn K (.ref C_NoRanking) (.ref C_NoFit) = some false)
    (cp_NoTree_NoFit : PySem.W.subIn K (.ref C_NoTree) (.ref C_NoFit) = some false)
    (ca_NoFixed : PySem.W.nsIn K mainGlobals "NoFixed" = some (some (.ref C_NoFixed)))
    (ct_NoFixed : PySem.W.typeIn K (.ref C_NoFixed) = some (.type "type"))
    (cd_NoFixed : PySem.W.hasDictIn K C_NoFixed = true)
    (cp_NoRanking_NoFixed : PySem.W.subIn K (.ref C_NoRanking) (.ref C_NoFixed) = some false)
    (cp_NoTree_NoFixed : PySem.W.subIn K (.ref C_NoTree) (.ref C_NoFixed) = some false)
    (ca_NoFolk : PySem.W.nsIn K mainGlobals "NoFolk" = some (some (.ref C_NoFolk)))
    (ct_NoFolk : PySem.W.typeIn K (.ref C_NoFolk) = some (.type "type"))
    (cd_NoFolk : PySem.W.hasDictIn K C_NoFolk = true)
    (cp_NoRanking_NoFolk : PySem.W.subIn K (.ref C_NoRanking) (.ref C_NoFolk) = some false)
    (cp_NoTree_NoFolk : PySem.W.subIn K (.ref C_NoTree) (.ref C_NoFolk) = some false)
    (ca_NoHand : PySem.W.nsIn K mainGlobals "NoHand" = some (some (.ref C_NoHand)))
    (ct_NoHand : PySem.W.typeIn K (.ref C_NoHand) = some (.type "type"))
    (cd_NoHand : PySem.W.hasDictIn K C_NoHand = true)
    (cp_NoRanking_NoHand : PySem.W.subIn K (.ref C_NoRanking) (.ref C_NoHand) = some false)
    (cp_NoTree_NoHand : PySem.W.subIn K (.ref C_NoTree) (.ref C_NoHand) = some false)
    (ca_NoLine : PySem.W.nsIn K mainGlobals "NoLine" = some (some (.ref C_NoLine)))
    (ct_NoLine : PySem.W.typeIn K (.ref C_NoLine) = some (.type "type"))
    (cd_NoLine : PySem.W.hasDictIn K C_NoLine = true)
    (cp_NoRanking_NoLine : PySem.W.subIn K (.ref C_NoRanking) (.ref C_NoLine) = some false)
    (cp_NoTree_NoLine : PySem.W.subIn K (.ref C_NoTree) (.ref C_NoLine) = some false)
    (ca_NoNames : PySem.W.nsIn K mainGlobals "NoNames" = some (some (.ref C_NoNames)))
    (ct_NoNames : PySem.W.typeIn K (.ref C_NoNames) = some (.type "type"))
    (cd_NoNames : PySem.W.hasDictIn K C_NoNames = true)
    (cp_NoRanking_NoNames : PySem.W.subIn K (.ref C_NoRanking) (.ref C_NoNames) = some false)
    (cp_NoTree_NoNames : PySem.W.subIn K (.ref C_NoTree) (.ref C_NoNames) = some false)
    (ca_NoNumber : PySem.W.nsIn K mainGlobals "NoNumber" = some (some (.ref C_NoNumber)))
    (ct_NoNumber : PySem.W.typeIn K (.ref C_NoNumber) = some (.type "type"))
    (cd_NoNumber : PySem.W.hasDictIn K C_NoNumber = true)
    (cp_NoRanking_NoNumber : PySem.W.subIn K (.ref C_NoRanking) (.ref C_NoNumber) = some false)
    (cp_NoTree_NoNumber : PySem.W.subIn K (.ref C_NoTree) (.ref C_NoNumber) = some false)
    (ca_NoPaper : PySem.W.nsIn K mainGlobals "NoPaper" = some (some (.ref C_NoPaper)))
    (ct_NoPaper : PySem.W.typeIn K (.ref C_NoPaper) = some (.type "type"))
    (cd_NoPaper : PySem.W.hasDictIn K C_NoPaper = true)
    (cp_NoRanking_NoPaper : PySem.W.subIn K (.ref C_NoRanking) (.ref C_NoPaper) = some false)
    (cp_NoTree_NoPaper : PySem.W.subIn K (.ref C_NoTree) (.ref C_NoPaper) = some false)
    (ca_NoRow : PySem.W.nsIn K mainGlobals "NoRow" = some (some (.ref C_NoRow)))
    (ct_NoRow : PySem.W.typeIn K (.ref C_NoRow) = some (.type "type"))
    (cd_NoRow : PySem.W.hasDictIn K C_NoRow = true)
    (cp_NoRanking_NoRow : PySem.W.subIn K (.ref C_NoRanking) (.ref C_NoRow) = some false)
    (cp_NoTree_NoRow : PySem.W.subIn K (.ref C_NoTree) (.ref C_NoRow) = some false)
    (ca_NoRule : PySem.W.nsIn K mainGlobals "NoRule" = some (some (.ref C_NoRule)))
    (ct_NoRule : PySem.W.typeIn K (.ref C_NoRule) = some (.type "type"))
    (cd_NoRule : PySem.W.hasDictIn K C_NoRule = true)
    (cp_NoRanking_NoRule : PySem.W.subIn K (.ref C_NoRanking) (.ref C_NoRule) = some false)
    (cp_NoTree_NoRule : PySem.W.subIn K (.ref C_NoTree) (.ref C_NoRule) = some false)
    (ca_NoText : PySem.W.nsIn K mainGlobals "NoText" = some (some (.ref C_NoText)))
    (ct_NoText : PySem.W.typeIn K (.ref C_NoText) = some (.type "type"))
    (cd_NoText : PySem.W.hasDictIn K C_NoText = true)
    (cp_NoRanking_NoText : PySem.W.subIn K (.ref C_NoRanking) (.ref C_NoText) = some false)
    (cp_NoTree_NoText : PySem.W.subIn K (.ref C_NoTree) (.ref C_NoText) = some false)
    (ca_NoTitle : PySem.W.nsIn K mainGlobals "NoTitle" = some (some (.ref C_NoTitle)))
    (ct_NoTitle : PySem.W.typeIn K (.ref C_NoTitle) = some (.type "type"))
    (cd_NoTitle : PySem.W.hasDictIn K C_NoTitle = true)
    (cp_NoRanking_NoTitle : PySem.W.subIn K (.ref C_NoRanking) (.ref C_NoTitle) = some false)
    (cp_NoTree_NoTitle : PySem.W.subIn K (.ref C_NoTree) (.ref C_NoTitle) = some false)
    (ca_NoTops : PySem.W.nsIn K mainGlobals "NoTops" = some (some (.ref C_NoTops)))
    (ct_NoTops : PySem.W.typeIn K (.ref C_NoTops) = some (.type "type"))
    (cd_NoTops : PySem.W.hasDictIn K C_NoTops = true)
    (cp_NoRanking_NoTops : PySem.W.subIn K (.ref C_NoRanking) (.ref C_NoTops) = some false)
    (cp_NoTree_NoTops : PySem.W.subIn K (.ref C_NoTree) (.ref C_NoTops) = some false)
    (ca_NoWeights : PySem.W.nsIn K mainGlobals "NoWeights" = some (some (.ref C_NoWeights)))
    (ct_NoWeights : PySem.W.typeIn K (.ref C_NoWeights) = some (.type "type"))
    (cd_NoWeights : PySem.W.hasDictIn K C_NoWeights = true)
    (cp_NoRanking_NoWeights : PySem.W.subIn K (.ref C_NoRanking) (.ref C_NoWeights) = some false)
    (cp_NoTree_NoWeights : PySem.W.subIn K (.ref C_NoTree) (.ref C_NoWeights) = some false)
    (ca_TooGreat : PySem.W.nsIn K mainGlobals "TooGreat" = some (some (.ref C_TooGreat)))
    (ct_TooGreat : PySem.W.typeIn K (.ref C_TooGreat) = some (.type "type"))
    (cd_TooGreat : PySem.W.hasDictIn K C_TooGreat = true)
    (cp_NoRanking_TooGreat : PySem.W.subIn K (.ref C_NoRanking) (.ref C_TooGreat) = some false)
    (cp_NoTree_TooGreat : PySem.W.subIn K (.ref C_NoTree) (.ref C_TooGreat) = some false)
    (c0_s : PySem.W.specialIn K (.builtin "object.__class__") "__get__" = some (some (.builtin "getset_descriptor.__get__")))
    (c0_t : PySem.W.takesIn K (.builtin "object.__class__") = some true) :
    ∃ fd : FuncData, (∀ (s : Shared) (v : Value), BindsTo s fd ⟨[v], []⟩ [("_law_script", v)]) ∧ ∀ base : Heap, K.In base → base.Ns mainGlobals mg → FnG P w K mg base (L2.CX P w) 10 fa fd ["_law_script"] (spLaw K) := by
  have E_NoRanking : ExF K mg "NoRanking" := ex_mk X G ca_NoRanking cx_NoRanking ck_NoRanking cb_NoRanking ct_NoRanking cv_NoRanking cd_NoRanking cg_NoRanking ch_NoRanking cc_NoRanking cm_NoRanking c0_s c0_t
  have E_NoTree : ExF K mg "NoTree" := ex_mk X G ca_NoTree cx_NoTree ck_NoTree cb_NoTree ct_NoTree cv_NoTree cd_NoTree cg_NoTree ch_NoTree cc_NoTree cm_NoTree c0_s c0_t
  have T : Txt K mg :=
    { b_isinstance := PySem.W.mg_none_of X G z_isinstance
      b_int := PySem.W.mg_none_of X G z_int
      b_bool := PySem.W.mg_none_of X G z_bool
      b_len := PySem.W.mg_none_of X G z_len
      b_list := PySem.W.mg_none_of X G z_list
      b_all := PySem.W.mg_none_of X G z_all
      b_set := PySem.W.mg_none_of X G z_set
      b_tuple := PySem.W.mg_none_of X G z_tuple
      b_sorted := PySem.W.mg_none_of X G z_sorted
      b_range := PySem.W.mg_none_of X G z_range
      b_min := PySem.W.mg_none_of X G z_min
      b_max := PySem.W.mg_none_of X G z_max
      b_ValueError := PySem.W.mg_none_of X G z_ValueError
      b_zip := PySem.W.mg_none_of X G z_zip
      b_dict := PySem.W.mg_none_of X G z_dict
      c_MOST_NAMES := ⟨_, PySem.W.mg_of X G g_MOST_NAMES⟩
      exc := ⟨by intro n hn; simp only [List.mem_cons, List.not_mem_nil, or_false] at hn; rcases hn with rfl | rfl; exact E_NoRanking; exact E_NoTree, by intro n hn; simp only [List.mem_cons, List.not_mem_nil, or_false] at hn; rcases hn with rfl | rfl; exact top_mk ca_NoRanking ca_FolkError cb_FolkError cd_FolkError ct_FolkError cf_NoRanking; exact top_mk ca_NoTree ca_FolkError cb_FolkError cd_FolkError ct_FolkError cf_NoTree, by intro n hn; simp only [List.mem_cons, List.not_mem_nil, or_false] at hn; rcases hn with rfl | rfl; (intro m hm; simp only [List.mem_cons, List.not_mem_nil, or_false] at hm; rcases hm with rfl | rfl; exact two_eq; exact two_mk ca_NoRanking ca_NoTree cp_NoRanking_NoTree cp_NoRanking_NoRanking cd_NoTree ct_NoTree (by decide)); (intro m hm; simp only [List.mem_cons, List.not_mem_nil, or_false] at hm; rcases hm with rfl | rfl; exact two_mk ca_NoTree ca_NoRanking cp_NoTree_NoRanking cp_NoTree_NoTree cd_NoRanking ct_NoRanking (by decide); exact two_eq), mgF_mk X G ca_FolkError⟩
      exy_NoBack := ⟨gY_mk X G ca_NoBack, by intro n hn; simp only [List.mem_cons, List.not_mem_nil, or_false] at hn; rcases hn with rfl | rfl; exact two2_mk ca_NoRanking ca_NoBack cp_NoRanking_NoBack cp_NoRanking_NoRanking cd_NoBack ct_NoBack; exact two2_mk ca_NoTree ca_NoBack cp_NoTree_NoBack cp_NoTree_NoTree cd_NoBack ct_NoBack⟩
      exy_NoFall := ⟨gY_mk X G ca_NoFall, by intro n hn; simp only [List.mem_cons, List.not_mem_nil, or_false] at hn; rcases hn with rfl | rfl; exact two2_mk ca_NoRanking ca_NoFall cp_NoRanking_NoFall cp_NoRanking_NoRanking cd_NoFall ct_NoFall; exact two2_mk ca_NoTree ca_NoFall cp_NoTree_NoFall cp_NoTree_NoTree cd_NoFall ct_NoFall⟩
      exy_NoFit := ⟨gY_mk X G ca_NoFit, by intro n hn; simp only [List.mem_cons, List.not_mem_nil, or_false] at hn; rcases hn with rfl | rfl; exact two2_mk ca_NoRanking ca_NoFit cp_NoRanking_NoFit cp_NoRanking_NoRanking cd_NoFit ct_NoFit; exact two2_mk ca_NoTree ca_NoFit cp_NoTree_NoFit cp_NoTree_NoTree cd_NoFit ct_NoFit⟩
      exy_NoFixed := ⟨gY_mk X G ca_NoFixed, by intro n hn; simp only [List.mem_cons, List.not_mem_nil, or_false] at hn; rcases hn with rfl | rfl; exact two2_mk ca_NoRanking ca_NoFixed cp_NoRanking_NoFixed cp_NoRanking_NoRanking cd_NoFixed ct_NoFixed; exact two2_mk ca_NoTree ca_NoFixed cp_NoTree_NoFixed cp_NoTree_NoTree cd_NoFixed ct_NoFixed⟩
      exy_NoFolk := ⟨gY_mk X G ca_NoFolk, by intro n hn; simp only [List.mem_cons, List.not_mem_nil, or_false] at hn; rcases hn with rfl | rfl; exact two2_mk ca_NoRanking ca_NoFolk cp_NoRanking_NoFolk cp_NoRanking_NoRanking cd_NoFolk ct_NoFolk; exact two2_mk ca_NoTree ca_NoFolk cp_NoTree_NoFolk cp_NoTree_NoTree cd_NoFolk ct_NoFolk⟩
      exy_NoHand := ⟨gY_mk X G ca_NoHand, by intro n hn; simp only [List.mem_cons, List.not_mem_nil, or_false] at hn; rcases hn with rfl | rfl; exact two2_mk ca_NoRanking ca_NoHand cp_NoRanking_NoHand cp_NoRanking_NoRanking cd_NoHand ct_NoHand; exact two2_mk ca_NoTree ca_NoHand cp_NoTree_NoHand cp_NoTree_NoTree cd_NoHand ct_NoHand⟩
      exy_NoLine := ⟨gY_mk X G ca_NoLine, by intro n hn; simp only [List.mem_cons, List.not_mem_nil, or_false] at hn; rcases hn with rfl | rfl; exact two2_mk ca_NoRanking ca_NoLine cp_NoRanking_NoLine cp_NoRanking_NoRanking cd_NoLine ct_NoLine; exact two2_mk ca_NoTree ca_NoLine cp_NoTree_NoLine cp_NoTree_NoTree cd_NoLine ct_NoLine⟩
      exy_NoNames := ⟨gY_mk X G ca_NoNames, by intro n hn; simp only [List.mem_cons, List.not_mem_nil, or_false] at hn; rcases hn with rfl | rfl; exact two2_mk ca_NoRanking ca_NoNames cp_NoRanking_NoNames cp_NoRanking_NoRanking cd_NoNames ct_NoNames; exact two2_mk ca_NoTree ca_NoNames cp_NoTree_NoNames cp_NoTree_NoTree cd_NoNames ct_NoNames⟩
      exy_NoNumber := ⟨gY_mk X G ca_NoNumber, by intro n hn; simp only [List.mem_cons, List.not_mem_nil, or_false] at hn; rcases hn with rfl | rfl; exact two2_mk ca_NoRanking ca_NoNumber cp_NoRanking_NoNumber cp_NoRanking_NoRanking cd_NoNumber ct_NoNumber; exact two2_mk ca_NoTree ca_NoNumber cp_NoTree_NoNumber cp_NoTree_NoTree cd_NoNumber ct_NoNumber⟩
      exy_NoPaper := ⟨gY_mk X G ca_NoPaper, by intro n hn; simp only [List.mem_cons, List.not_mem_nil, or_false] at hn; rcases hn with rfl | rfl; exact two2_mk ca_NoRanking ca_NoPaper cp_NoRanking_NoPaper cp_NoRanking_NoRanking cd_NoPaper ct_NoPaper; exact two2_mk ca_NoTree ca_NoPaper cp_NoTree_NoPaper cp_NoTree_NoTree cd_NoPaper ct_NoPaper⟩
      exy_NoRow := ⟨gY_mk X G ca_NoRow, by intro n hn; simp only [List.mem_cons, List.not_mem_nil, or_false] at hn; rcases hn with rfl | rfl; exact two2_mk ca_NoRanking ca_NoRow cp_NoRanking_NoRow cp_NoRanking_NoRanking cd_NoRow ct_NoRow; exact two2_mk ca_NoTree ca_NoRow cp_NoTree_NoRow cp_NoTree_NoTree cd_NoRow ct_NoRow⟩
      exy_NoRule := ⟨gY_mk X G ca_NoRule, by intro n hn; simp only [List.mem_cons, List.not_mem_nil, or_false] at hn; rcases hn with rfl | rfl; exact two2_mk ca_NoRanking ca_NoRule cp_NoRanking_NoRule cp_NoRanking_NoRanking cd_NoRule ct_NoRule; exact two2_mk ca_NoTree ca_NoRule cp_NoTree_NoRule cp_NoTree_NoTree cd_NoRule ct_NoRule⟩
      exy_NoText := ⟨gY_mk X G ca_NoText, by intro n hn; simp only [List.mem_cons, List.not_mem_nil, or_false] at hn; rcases hn with rfl | rfl; exact two2_mk ca_NoRanking ca_NoText cp_NoRanking_NoText cp_NoRanking_NoRanking cd_NoText ct_NoText; exact two2_mk ca_NoTree ca_NoText cp_NoTree_NoText cp_NoTree_NoTree cd_NoText ct_NoText⟩
      exy_NoTitle := ⟨gY_mk X G ca_NoTitle, by intro n hn; simp only [List.mem_cons, List.not_mem_nil, or_false] at hn; rcases hn with rfl | rfl; exact two2_mk ca_NoRanking ca_NoTitle cp_NoRanking_NoTitle cp_NoRanking_NoRanking cd_NoTitle ct_NoTitle; exact two2_mk ca_NoTree ca_NoTitle cp_NoTree_NoTitle cp_NoTree_NoTree cd_NoTitle ct_NoTitle⟩
      exy_NoTops := ⟨gY_mk X G ca_NoTops, by intro n hn; simp only [List.mem_cons, List.not_mem_nil, or_false] at hn; rcases hn with rfl | rfl; exact two2_mk ca_NoRanking ca_NoTops cp_NoRanking_NoTops cp_NoRanking_NoRanking cd_NoTops ct_NoTops; exact two2_mk ca_NoTree ca_NoTops cp_NoTree_NoTops cp_NoTree_NoTree cd_NoTops ct_NoTops⟩
      exy_NoWeights := ⟨gY_mk X G ca_NoWeights, by intro n hn; simp only [List.mem_cons, List.not_mem_nil, or_false] at hn; rcases hn with rfl | rfl; exact two2_mk ca_NoRanking ca_NoWeights cp_NoRanking_NoWeights cp_NoRanking_NoRanking cd_NoWeights ct_NoWeights; exact two2_mk ca_NoTree ca_NoWeights cp_NoTree_NoWeights cp_NoTree_NoTree cd_NoWeights ct_NoWeights⟩
      exy_TooGreat := ⟨gY_mk X G ca_TooGreat, by intro n hn; simp only [List.mem_cons, List.not_mem_nil, or_false] at hn; rcases hn with rfl | rfl; exact two2_mk ca_NoRanking ca_TooGreat cp_NoRanking_TooGreat cp_NoRanking_NoRanking cd_TooGreat ct_TooGreat; exact two2_mk ca_NoTree ca_TooGreat cp_NoTree_TooGreat cp_NoTree_NoTree cd_TooGreat ct_TooGreat⟩
      d_is_number := wr_mk X G a_is_number l_is_number c_is_number k_is_number fun _ _ _ _ _ _ us hl => match us, hl with | [_], _ => rfl
      d_are_unlike_names := wr_mk X G a_are_unlike_names l_are_unlike_names c_are_unlike_names k_are_unlike_names fun _ _ _ _ _ _ us hl => match us, hl with | [_], _ => rfl
      d_is_ranking := wr_mk X G a_is_ranking l_is_ranking c_is_ranking k_is_ranking fun _ _ _ _ _ _ us hl => match us, hl with | [_], _ => rfl
      d_must_be_ranking := wr_mk X G a_must_be_ranking l_must_be_ranking c_must_be_ranking k_must_be_ranking fun _ _ _ _ _ _ us hl => match us, hl with | [_], _ => rfl
      d_is_tie := wr_mk X G a_is_tie l_is_tie c_is_tie k_is_tie fun _ _ _ _ _ _ us hl => match us, hl with | [_, _], _ => rfl
      d_reached := wr_mk X G a_reached l_reached c_reached k_reached fun _ _ _ _ _ _ us hl => match us, hl with | [_, _, _], _ => rfl
      d_hang_together := wr_mk X G a_hang_together l_hang_together c_hang_together k_hang_together fun _ _ _ _ _ _ us hl => match us, hl with | [_, _], _ => rfl
      d_is_right_tree := wr_mk X G a_is_right_tree l_is_right_tree c_is_right_tree k_is_right_tree fun _ _ _ _ _ _ us hl => match us, hl with | [_, _], _ => rfl
      d_must_be_tree := wr_mk X G a_must_be_tree l_must_be_tree c_must_be_tree k_must_be_tree fun _ _ _ _ _ _ us hl => match us, hl with | [_, _], _ => rfl
      d_apart_at := wr_mk X G a_apart_at l_apart_at c_apart_at k_apart_at fun _ _ _ _ _ _ us hl => match us, hl with | [_, _], _ => rfl
      d_first_apart := wr_mk X G a_first_apart l_first_apart c_first_apart k_first_apart fun _ _ _ _ _ _ us hl => match us, hl with | [_, _], _ => rfl
      d__law_mix := wr_mk X G a__law_mix l__law_mix c__law_mix k__law_mix fun _ _ _ _ _ _ us hl => match us, hl with | [_, _], _ => rfl
      d__law_left := wr_mk X G a__law_left l__law_left c__law_left k__law_left fun _ _ _ _ _ _ us hl => match us, hl with | [_], _ => rfl
      d__law_draw := wr_mk X G a__law_draw l__law_draw c__law_draw k__law_draw fun _ _ _ _ _ _ us hl => match us, hl with | [_, _], _ => rfl
      d__law_names := wr_mk X G a__law_names l__law_names c__law_names k__law_names fun _ _ _ _ _ _ us hl => match us, hl with | [_, _], _ => rfl
      d__law_shuffled := wr_mk X G a__law_shuffled l__law_shuffled c__law_shuffled k__law_shuffled fun _ _ _ _ _ _ us hl => match us, hl with | [_, _], _ => rfl
      d__law_tree := wr_mk X G a__law_tree l__law_tree c__law_tree k__law_tree fun _ _ _ _ _ _ us hl => match us, hl with | [_, _], _ => rfl
      d__law_falling := wr_mk X G a__law_falling l__law_falling c__law_falling k__law_falling fun _ _ _ _ _ _ us hl => match us, hl with | [_, _, _], _ => rfl
      d__law_together := wr_mk X G a__law_together l__law_together c__law_together k__law_together fun _ _ _ _ _ _ us hl => match us, hl with | [_, _], _ => rfl
      d__law_apart := wr_mk X G a__law_apart l__law_apart c__law_apart k__law_apart fun _ _ _ _ _ _ us hl => match us, hl with | [_, _], _ => rfl
      d__law_marks := wr_mk X G a__law_marks l__law_marks c__law_marks k__law_marks fun _ _ _ _ _ _ us hl => match us, hl with | [_], _ => rfl
      d__law_copied := wr_mk X G a__law_copied l__law_copied c__law_copied k__law_copied fun _ _ _ _ _ _ us hl => match us, hl with | [_], _ => rfl
      d__law_told := wr_mk X G a__law_told l__law_told c__law_told k__law_told fun _ _ _ _ _ _ us hl => match us, hl with | [_, _], _ => rfl
      d__law_put_off := wr_mk X G a__law_put_off l__law_put_off c__law_put_off k__law_put_off fun _ _ _ _ _ _ us hl => match us, hl with | [_, _, _], _ => rfl
      d__law_refused := wr_mk X G a__law_refused l__law_refused c__law_refused k__law_refused fun _ _ _ _ _ _ us hl => match us, hl with | [_, _, _, _], _ => rfl }
  have e := hfa.symm.trans (PySem.W.mg_of X G a_law)
  cases e
  refine ⟨PySem.W.fnOf "law" "law" (defArgs (top 50)) (defBody (top 50)) (defScope (top 50)) .none kV_law dc_law pm_law an_law cd_law ct_law, fun s v => .of_eq rfl, fun base _ _ => ?_⟩
  let cl : String → Addr := clOf K
  have q_is_number := w_is_number (P := P) (w := w) (base := base) T  
  have q_are_unlike_names := w_are_unlike_names (P := P) (w := w) (base := base) T q_is_number 
  have q_is_ranking := w_is_ranking (P := P) (w := w) (base := base) T q_are_unlike_names 
  have q_must_be_ranking := w_must_be_ranking (P := P) (w := w) (base := base) T q_is_ranking 
  have q_is_tie := w_is_tie (P := P) (w := w) (base := base) T q_is_number 
  have q_reached := w_reached (P := P) (w := w) (base := base) T  
  have q_hang_together := w_hang_together (P := P) (w := w) (base := base) T q_reached 
  have q_is_right_tree := w_is_right_tree (P := P) (w := w) (base := base) T q_is_tie q_hang_together 
  have q_must_be_tree := w_must_be_tree (P := P) (w := w) (base := base) T q_is_right_tree 
  have q_apart_at := w_apart_at (P := P) (w := w) (base := base) T q_hang_together 
  have q_first_apart := w_first_apart (P := P) (w := w) (base := base) T q_must_be_ranking q_must_be_tree q_apart_at 
  have q__law_mix := w__law_mix (P := P) (w := w) (base := base) T  
  have q__law_left := w__law_left (P := P) (w := w) (base := base) T  
  have q__law_draw := w__law_draw (P := P) (w := w) (base := base) T q__law_mix 
  have q__law_names := w__law_names (P := P) (w := w) (base := base) T q__law_draw 
  have q__law_shuffled := w__law_shuffled (P := P) (w := w) (base := base) T q__law_draw 
  have q__law_tree := w__law_tree (P := P) (w := w) (base := base) T q__law_draw q__law_shuffled 
  have q__law_falling := w__law_falling (P := P) (w := w) (base := base) T q__law_draw 
  have q__law_together := w__law_together (P := P) (w := w) (base := base) T  
  have q__law_apart := w__law_apart (P := P) (w := w) (base := base) T q__law_together 
  have q__law_marks := w__law_marks (P := P) (w := w) (base := base) T  
  have q__law_copied := w__law_copied (P := P) (w := w) (base := base) T   6
  have q__law_told := w__law_told (P := P) (w := w) (base := base) T q_first_apart q__law_marks q__law_copied 
  have q__law_put_off := w__law_put_off (P := P) (w := w) (base := base) T  
  have q__law_refused := w__law_refused (P := P) (w := w) (base := base) T q__law_draw q__law_tree q__law_told 
  exact w_law (P := P) (w := w) (base := base) T law_k71_ok q__law_left q__law_draw q__law_names q__law_shuffled q__law_tree q__law_falling q__law_apart q__law_told q__law_put_off q__law_refused  (fun_mk l_law c_law k_law)
end K71
end DL
open PySem PySem.W PyProof.Rows in
set_option maxRecDepth 100000 in
set_option maxHeartbeats 0 in
theorem PySem.Challenge.cw_ontheline_k71_whole_rankings_on_trees_holds : PySem.Challenge.rw_ontheline_k71_whole_rankings_on_trees.Holds := by
  w_on; o_law; k_head; (case hw => w_witness2)
  k_fill
  refine DL.walk (l := PySem.Challenge.rw_ontheline_k71_whole_rankings_on_trees) (k := 10) (x := "_law_script") rfl rfl ⟨rfl, by decide, by decide⟩ (fun w h Y => PySem.W.kIn_of Y) ?F
  case F =>
    intro w mg fa h KX G hmg
    refine' DL.K71.all_mk KX G hmg ?a_is_number ?l_is_number ?c_is_number ?k_is_number ?a_are_unlike_names ?l_are_unlike_names ?c_are_unlike_names ?k_are_unlike_names ?a_is_ranking ?l_is_ranking ?c_is_ranking ?k_is_ranking ?a_must_be_ranking ?l_must_be_ranking ?c_must_be_ranking ?k_must_be_ranking ?a_is_tie ?l_is_tie ?c_is_tie ?k_is_tie ?a_reached ?l_reached ?c_reached ?k_reached ?a_hang_together ?l_hang_together ?c_hang_together ?k_hang_together ?a_is_right_tree ?l_is_right_tree ?c_is_right_tree ?k_is_right_tree ?a_must_be_tree ?l_must_be_tree ?c_must_be_tree ?k_must_be_tree ?a_apart_at ?l_apart_at ?c_apart_at ?k_apart_at ?a_first_apart ?l_first_apart ?c_first_apart ?k_first_apart ?a__law_mix ?l__law_mix ?c__law_mix ?k__law_mix ?a__law_left ?l__law_left ?c__law_left ?k__law_left ?a__law_draw ?l__law_draw ?c__law_draw ?k__law_draw ?a__law_names ?l__law_names ?c__law_names ?k__law_names ?a__law_shuffled ?l__law_shuffled ?c__law_shuffled ?k__law_shuffled ?a__law_tree ?l__law_tree ?c__law_tree ?k__law_tree ?a__law_falling ?l__law_falling ?c__law_falling ?k__law_falling ?a__law_together ?l__law_together ?c__law_together ?k__law_together ?a__law_apart ?l__law_apart ?c__law_apart ?k__law_apart ?a__law_marks ?l__law_marks ?c__law_marks ?k__law_marks ?a__law_copied ?l__law_copied ?c__law_copied ?k__law_copied ?a__law_told ?l__law_told ?c__law_told ?k__law_told ?a__law_put_off ?l__law_put_off ?c__law_put_off ?k__law_put_off ?a__law_refused ?l__law_refused ?c__law_refused ?k__law_refused ?a_law ?l_law ?c_law ?k_law ?z_isinstance ?z_int ?z_bool ?z_len ?z_list ?z_all ?z_set ?z_tuple ?z_sorted ?z_range ?z_min ?z_max ?z_ValueError ?z_zip ?z_dict ?g_MOST_NAMES ?ca_NoRanking ?cb_NoRanking ?ct_NoRanking ?cd_NoRanking ?ca_NoTree ?cb_NoTree ?ct_NoTree ?cd_NoTree ?ca_FolkError ?cb_FolkError ?ct_FolkError ?cd_FolkError ?cx_NoRanking ?ck_NoRanking ?cv_NoRanking ?cg_NoRanking ?ch_NoRanking ?cc_NoRanking ?cm_NoRanking ?cf_NoRanking ?cp_NoRanking_NoRanking ?cp_NoRanking_NoTree ?cx_NoTree ?ck_NoTree ?cv_NoTree ?cg_NoTree ?ch_NoTree ?cc_NoTree ?cm_NoTree ?cf_NoTree ?cp_NoTree_NoRanking ?cp_NoTree_NoTree ?ca_NoBack ?ct_NoBack ?cd_NoBack ?cp_NoRanking_NoBack ?cp_NoTree_NoBack ?ca_NoFall ?ct_NoFall ?cd_NoFall ?cp_NoRanking_NoFall ?cp_NoTree_NoFall ?ca_NoFit ?ct_NoFit ?cd_NoFit ?cp_NoRanking_NoFit ?cp_NoTree_NoFit ?ca_NoFixed ?ct_NoFixed ?cd_NoFixed ?cp_NoRanking_NoFixed ?cp_NoTree_NoFixed ?ca_NoFolk ?ct_NoFolk ?cd_NoFolk ?cp_NoRanking_NoFolk ?cp_NoTree_NoFolk ?ca_NoHand ?ct_NoHand ?cd_NoHand ?cp_NoRanking_NoHand ?cp_NoTree_NoHand ?ca_NoLine ?ct_NoLine ?cd_NoLine ?cp_NoRanking_NoLine ?cp_NoTree_NoLine ?ca_NoNames ?ct_NoNames ?cd_NoNames ?cp_NoRanking_NoNames ?cp_NoTree_NoNames ?ca_NoNumber ?ct_NoNumber ?cd_NoNumber ?cp_NoRanking_NoNumber ?cp_NoTree_NoNumber ?ca_NoPaper ?ct_NoPaper ?cd_NoPaper ?cp_NoRanking_NoPaper ?cp_NoTree_NoPaper ?ca_NoRow ?ct_NoRow ?cd_NoRow ?cp_NoRanking_NoRow ?cp_NoTree_NoRow ?ca_NoRule ?ct_NoRule ?cd_NoRule ?cp_NoRanking_NoRule ?cp_NoTree_NoRule ?ca_NoText ?ct_NoText ?cd_NoText ?cp_NoRanking_NoText ?cp_NoTree_NoText ?ca_NoTitle ?ct_NoTitle ?cd_NoTitle ?cp_NoRanking_NoTitle ?cp_NoTree_NoTitle ?ca_NoTops ?ct_NoTops ?cd_NoTops ?cp_NoRanking_NoTops ?cp_NoTree_NoTops ?ca_NoWeights ?ct_NoWeights ?cd_NoWeights ?cp_NoRanking_NoWeights ?cp_NoTree_NoWeights ?ca_TooGreat ?ct_TooGreat ?cd_TooGreat ?cp_NoRanking_TooGreat ?cp_NoTree_TooGreat ?c0_s ?c0_t
    (case a_is_number => k_is)
    (case l_is_number => k_is)
    (case c_is_number => k_is)
    (case k_is_number => k_is)
    (case a_are_unlike_names => k_is)
    (case l_are_unlike_names => k_is)
    (case c_are_unlike_names => k_is)
    (case k_are_unlike_names => k_is)
    (case a_is_ranking => k_is)
    (case l_is_ranking => k_is)
    (case c_is_ranking => k_is)
    (case k_is_ranking => k_is)
    (case a_must_be_ranking => k_is)
    (case l_must_be_ranking => k_is)
    (case c_must_be_ranking => k_is)
    (case k_must_be_ranking => k_is)
    (case a_is_tie => k_is)
    (case l_is_tie => k_is)
    (case c_is_tie => k_is)
    (case k_is_tie => k_is)
    (case a_reached => k_is)
    (case l_reached => k_is)
    (case c_reached => k_is)
    (case k_reached => k_is)
    (case a_hang_together => k_is)
    (case l_hang_together => k_is)
    (case c_hang_together => k_is)
    (case k_hang_together => k_is)
    (case a_is_right_tree => k_is)
    (case l_is_right_tree => k_is)
    (case c_is_right_tree => k_is)
    (case k_is_right_tree => k_is)
    (case a_must_be_tree => k_is)
    (case l_must_be_tree => k_is)
    (case c_must_be_tree => k_is)
    (case k_must_be_tree => k_is)
    (case a_apart_at => k_is)
    (case l_apart_at => k_is)
    (case c_apart_at => k_is)
    (case k_apart_at => k_is)
    (case a_first_apart => k_is)
    (case l_first_apart => k_is)
    (case c_first_apart => k_is)
    (case k_first_apart => k_is)
    (case a__law_mix => k_is)
    (case l__law_mix => k_is)
    (case c__law_mix => k_is)
    (case k__law_mix => k_is)
    (case a__law_left => k_is)
    (case l__law_left => k_is)
    (case c__law_left => k_is)
    (case k__law_left => k_is)
    (case a__law_draw => k_is)
    (case l__law_draw => k_is)
    (case c__law_draw => k_is)
    (case k__law_draw => k_is)
    (case a__law_names => k_is)
    (case l__law_names => k_is)
    (case c__law_names => k_is)
    (case k__law_names => k_is)
    (case a__law_shuffled => k_is)
    (case l__law_shuffled => k_is)
    (case c__law_shuffled => k_is)
    (case k__law_shuffled => k_is)
    (case a__law_tree => k_is)
    (case l__law_tree => k_is)
    (case c__law_tree => k_is)
    (case k__law_tree => k_is)
    (case a__law_falling => k_is)
    (case l__law_falling => k_is)
    (case c__law_falling => k_is)
    (case k__law_falling => k_is)
    (case a__law_together => k_is)
    (case l__law_together => k_is)
    (case c__law_together => k_is)
    (case k__law_together => k_is)
    (case a__law_apart => k_is)
    (case l__law_apart => k_is)
    (case c__law_apart => k_is)
    (case k__law_apart => k_is)
    (case a__law_marks => k_is)
    (case l__law_marks => k_is)
    (case c__law_marks => k_is)
    (case k__law_marks => k_is)
    (case a__law_copied => k_is)
    (case l__law_copied => k_is)
    (case c__law_copied => k_is)
    (case k__law_copied => k_is)
    (case a__law_told => k_is)
    (case l__law_told => k_is)
    (case c__law_told => k_is)
    (case k__law_told => k_is)
    (case a__law_put_off => k_is)
    (case l__law_put_off => k_is)
    (case c__law_put_off => k_is)
    (case k__law_put_off => k_is)
    (case a__law_refused => k_is)
    (case l__law_refused => k_is)
    (case c__law_refused => k_is)
    (case k__law_refused => k_is)
    (case a_law => k_is)
    (case l_law => k_is)
    (case c_law => k_is)
    (case k_law => k_is)
    (case z_isinstance => k_is)
    (case z_int => k_is)
    (case z_bool => k_is)
    (case z_len => k_is)
    (case z_list => k_is)
    (case z_all => k_is)
    (case z_set => k_is)
    (case z_tuple => k_is)
    (case z_sorted => k_is)
    (case z_range => k_is)
    (case z_min => k_is)
    (case z_max => k_is)
    (case z_ValueError => k_is)
    (case z_zip => k_is)
    (case z_dict => k_is)
    (case g_MOST_NAMES => k_is)
    (case ca_NoRanking => k_is)
    (case cb_NoRanking => k_is)
    (case ct_NoRanking => k_is)
    (case cd_NoRanking => k_is)
    (case ca_NoTree => k_is)
    (case cb_NoTree => k_is)
    (case ct_NoTree => k_is)
    (case cd_NoTree => k_is)
    (case ca_FolkError => k_is)
    (case cb_FolkError => k_is)
    (case ct_FolkError => k_is)
    (case cd_FolkError => k_is)
    (case cx_NoRanking => k_exc)
    (case ck_NoRanking => k_is)
    (case cv_NoRanking => k_is)
    (case cg_NoRanking => k_is)
    (case ch_NoRanking => k_is)
    (case cc_NoRanking => k_is)
    (case cm_NoRanking => k_is)
    (case cf_NoRanking => k_is)
    (case cp_NoRanking_NoRanking => k_is)
    (case cp_NoRanking_NoTree => k_is)
    (case cx_NoTree => k_exc)
    (case ck_NoTree => k_is)
    (case cv_NoTree => k_is)
    (case cg_NoTree => k_is)
    (case ch_NoTree => k_is)
    (case cc_NoTree => k_is)
    (case cm_NoTree => k_is)
    (case cf_NoTree => k_is)
    (case cp_NoTree_NoRanking => k_is)
    (case cp_NoTree_NoTree => k_is)
    (case ca_NoBack => k_is)
    (case ct_NoBack => k_is)
    (case cd_NoBack => k_is)
    (case cp_NoRanking_NoBack => k_is)
    (case cp_NoTree_NoBack => k_is)
    (case ca_NoFall => k_is)
    (case ct_NoFall => k_is)
    (case cd_NoFall => k_is)
    (case cp_NoRanking_NoFall => k_is)
    (case cp_NoTree_NoFall => k_is)
    (case ca_NoFit => k_is)
    (case ct_NoFit => k_is)
    (case cd_NoFit => k_is)
    (case cp_NoRanking_NoFit => k_is)
    (case cp_NoTree_NoFit => k_is)
    (case ca_NoFixed => k_is)
    (case ct_NoFixed => k_is)
    (case cd_NoFixed => k_is)
    (case cp_NoRanking_NoFixed => k_is)
    (case cp_NoTree_NoFixed => k_is)
    (case ca_NoFolk => k_is)
    (case ct_NoFolk => k_is)
    (case cd_NoFolk => k_is)
    (case cp_NoRanking_NoFolk => k_is)
    (case cp_NoTree_NoFolk => k_is)
    (case ca_NoHand => k_is)
    (case ct_NoHand => k_is)
    (case cd_NoHand => k_is)
    (case cp_NoRanking_NoHand => k_is)
    (case cp_NoTree_NoHand => k_is)
    (case ca_NoLine => k_is)
    (case ct_NoLine => k_is)
    (case cd_NoLine => k_is)
    (case cp_NoRanking_NoLine => k_is)
    (case cp_NoTree_NoLine => k_is)
    (case ca_NoNames => k_is)
    (case ct_NoNames => k_is)
    (case cd_NoNames => k_is)
    (case cp_NoRanking_NoNames => k_is)
    (case cp_NoTree_NoNames => k_is)
    (case ca_NoNumber => k_is)
    (case ct_NoNumber => k_is)
    (case cd_NoNumber => k_is)
    (case cp_NoRanking_NoNumber => k_is)
    (case cp_NoTree_NoNumber => k_is)
    (case ca_NoPaper => k_is)
    (case ct_NoPaper => k_is)
    (case cd_NoPaper => k_is)
    (case cp_NoRanking_NoPaper => k_is)
    (case cp_NoTree_NoPaper => k_is)
    (case ca_NoRow => k_is)
    (case ct_NoRow => k_is)
    (case cd_NoRow => k_is)
    (case cp_NoRanking_NoRow => k_is)
    (case cp_NoTree_NoRow => k_is)
    (case ca_NoRule => k_is)
    (case ct_NoRule => k_is)
    (case cd_NoRule => k_is)
    (case cp_NoRanking_NoRule => k_is)
    (case cp_NoTree_NoRule => k_is)
    (case ca_NoText => k_is)
    (case ct_NoText => k_is)
    (case cd_NoText => k_is)
    (case cp_NoRanking_NoText => k_is)
    (case cp_NoTree_NoText => k_is)
    (case ca_NoTitle => k_is)
    (case ct_NoTitle => k_is)
    (case cd_NoTitle => k_is)
    (case cp_NoRanking_NoTitle => k_is)
    (case cp_NoTree_NoTitle => k_is)
    (case ca_NoTops => k_is)
    (case ct_NoTops => k_is)
    (case cd_NoTops => k_is)
    (case cp_NoRanking_NoTops => k_is)
    (case cp_NoTree_NoTops => k_is)
    (case ca_NoWeights => k_is)
    (case ct_NoWeights => k_is)
    (case cd_NoWeights => k_is)
    (case cp_NoRanking_NoWeights => k_is)
    (case cp_NoTree_NoWeights => k_is)
    (case ca_TooGreat => k_is)
    (case ct_TooGreat => k_is)
    (case cd_TooGreat => k_is)
    (case cp_NoRanking_TooGreat => k_is)
    (case cp_NoTree_TooGreat => k_is)
    (case c0_s => k_is)
    (case c0_t => k_is)
