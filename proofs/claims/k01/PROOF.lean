import PyProof.Rows.All
import Wide.All
import OpenK.AllK
import Wide.FinOn
import HandS.ForMost
import HandS.Exc
import HandS.TryOnly
import HandS.ExcOwn
import HandS.ExcInit
import HandS.TryMany
import HandS.WordsExc
import HandS.Wide
import HandS.Flow
import HandS.Zip
import HandS.TupAny
import HandS.Conv
import KE.SortData
import KE.DataAny
import KE.DataIsa
import KE.DataFind
import KE.DataEq
import KE.DataCmp
import KE.DataMinMax
import PyProof.Rows.ReprR
import HandS.Style
import HandS.Words
import HandS.Ends
import PyProof.ReprLen
import PySem.Challenge.RW_barterheaps_k01_heaps_and_sums
set_option Elab.async false
set_option linter.all false
set_option maxRecDepth 100000
set_option maxHeartbeats 1000000
namespace BH
open PySem PySem.Spec PyProof.Rows L2

/-- a set of addresses -/
abbrev AS := Addr → Prop

/-- a list of the written part -/
def KL (K : PySem.W.Frag) (a : Addr) (vs : List V) : Prop := ∀ H : Hp, SqL K H a vs
/-- a list that no one changes -/
def LsD (K : PySem.W.Frag) (A : AS) (H : Hp) (a : Addr) (vs : List V) : Prop := (¬ A a ∧ Rd H a (.lst vs)) ∨ KL K a vs
theorem LsD.sq {K : PySem.W.Frag} {A : AS} {H : Hp} {a : Addr} {vs : List V} (h : LsD K A H a vs) : SqL K H a vs := by
  rcases h with ⟨_, h⟩ | h
  · exact .inl h
  · exact h H

mutual
/-- the value denotes the data, off the addresses in A -/
def Dv (K : PySem.W.Frag) (A : AS) (H : Hp) : PyData → V → Prop
  | .none, v => v = .non
  | .bool b, v => v = .bl b
  | .int i, v => v = .int i
  | .str x, v => v = .str x
  | .tuple ds, v => ∃ a vs, v = .ref a ∧ SqT K H a vs ∧ Dvs K A H ds vs
  | .list ds, v => ∃ a vs, v = .ref a ∧ LsD K A H a vs ∧ Dvs K A H ds vs
  | .dict kvs, v => kvs = [] ∧ ∃ a, v = .ref a ∧ ¬ A a ∧ H a = some (.dK [])
def Dvs (K : PySem.W.Frag) (A : AS) (H : Hp) : List PyData → List V → Prop
  | [], vs => vs = []
  | d :: ds, vs => ∃ v r, vs = v :: r ∧ Dv K A H d v ∧ Dvs K A H ds r
end

/-- what one step may change: the objects at O alone -/
structure Ext (O A : AS) (H : Hp) (A' : AS) (H' : Hp) : Prop where
  keep : ∀ a o, H a = some o → ¬ O a → H' a = some o
  tup : ∀ a vs, H a = some (.tup vs) → H' a = some (.tup vs)
  frz : ∀ a ob o, H a = some (.frz ob o) → H' a = some (.frz ob o)
  dom : ∀ a, H a ≠ none → H' a ≠ none
  av1 : ∀ a, A a → ¬ O a → A' a
  av2 : ∀ a, A' a → A a ∨ H a = none

theorem Ext.refl (O A : AS) (H : Hp) : Ext O A H A H :=
  ⟨fun _ _ h _ => h, fun _ _ h => h, fun _ _ _ h => h, fun _ h => h, fun _ h _ => h, fun _ h => .inl h⟩

theorem none_of_dom {H H' : Hp} (h : ∀ a, H a ≠ none → H' a ≠ none) {a : Addr} (q : H' a = none) : H a = none := by
  cases e : H a with
  | none => rfl
  | some o => exact absurd q (h a (by rw [e]; simp))

theorem Ext.trans {O1 O2 A A1 A2 : AS} {H H1 H2 : Hp} (a : Ext O1 A H A1 H1) (b : Ext O2 A1 H1 A2 H2) (hO : ∀ x, O2 x → O1 x ∨ H x = none)
    (hA : ∀ x, A x → H x ≠ none) : Ext O1 A H A2 H2 where
  keep := fun x o h n => b.keep x o (a.keep x o h n) fun z => by
    rcases hO x z with q | q
    · exact n q
    · rw [h] at q; cases q
  tup := fun x vs h => b.tup x vs (a.tup x vs h)
  frz := fun x ob o h => b.frz x ob o (a.frz x ob o h)
  dom := fun x h => b.dom x (a.dom x h)
  av1 := fun x h n => b.av1 x (a.av1 x h n) fun z => by
    rcases hO x z with q | q
    · exact n q
    · exact hA x h q
  av2 := fun x h => by
    rcases b.av2 x h with q | q
    · exact a.av2 x q
    · exact .inr (none_of_dom a.dom q)

section
variable {K : PySem.W.Frag} {O A A' : AS} {H H' : Hp}
theorem sqt_ext (h : ∀ a vs, H a = some (.tup vs) → H' a = some (.tup vs)) (hf : ∀ a ob o, H a = some (.frz ob o) → H' a = some (.frz ob o)) {a : Addr} {vs : List V} (q : SqT K H a vs) : SqT K H' a vs := by
  rcases q with (q | ⟨o, q⟩) | q
  · exact .inl (.inl (h _ _ q))
  · exact .inl (.inr ⟨o, hf _ _ _ q⟩)
  · exact .inr q
theorem Ext.rd (e : Ext O A H A' H') (hO : ∀ a, O a → A a) {a : Addr} {vs : List V} (n : ¬ O a) (q : Rd H a (.lst vs)) : Rd H' a (.lst vs) := by
  rcases q with q | ⟨o, q⟩
  · exact .inl (e.keep _ _ q n)
  · exact .inr ⟨o, e.frz _ _ _ q⟩
theorem rd_some {H : Hp} {a : Addr} {u : HO} (q : Rd H a u) : H a ≠ none := by
  rcases q with q | ⟨o, q⟩ <;> rw [q] <;> simp

mutual
theorem Dv.ext (e : Ext O A H A' H') (hO : ∀ a, O a → A a) : ∀ (d : PyData) (v : V), Dv K A H d v → Dv K A' H' d v
  | .none, v, h => by simp only [Dv] at h ⊢; exact h
  | .bool b, v, h => by simp only [Dv] at h ⊢; exact h
  | .int i, v, h => by simp only [Dv] at h ⊢; exact h
  | .str x, v, h => by simp only [Dv] at h ⊢; exact h
  | .tuple ds, v, h => by
    simp only [Dv] at h ⊢
    obtain ⟨a, vs, rfl, q, r⟩ := h
    exact ⟨a, vs, rfl, sqt_ext e.tup e.frz q, Dvs.ext e hO ds vs r⟩
  | .list ds, v, h => by
    simp only [Dv] at h ⊢
    obtain ⟨a, vs, rfl, q, r⟩ := h
    refine ⟨a, vs, rfl, ?_, Dvs.ext e hO ds vs r⟩
    rcases q with ⟨n, q⟩ | q
    · refine .inl ⟨fun z => ?_, e.rd hO (fun z => n (hO a z)) q⟩
      rcases e.av2 a z with y | y
      · exact n y
      · exact rd_some q y
    · exact .inr q
  | .dict kvs, v, h => by
    simp only [Dv] at h ⊢
    obtain ⟨rfl, a, rfl, n, q⟩ := h
    refine ⟨rfl, a, rfl, fun z => ?_, e.keep _ _ q (fun z => n (hO a z))⟩
    rcases e.av2 a z with y | y
    · exact n y
    · rw [q] at y; cases y
theorem Dvs.ext (e : Ext O A H A' H') (hO : ∀ a, O a → A a) : ∀ (ds : List PyData) (vs : List V), Dvs K A H ds vs → Dvs K A' H' ds vs
  | [], vs, h => by simp only [Dvs] at h ⊢; exact h
  | d :: ds, vs, h => by
    simp only [Dvs] at h ⊢
    obtain ⟨v, r, rfl, q, t⟩ := h
    exact ⟨v, r, rfl, Dv.ext e hO d v q, Dvs.ext e hO ds r t⟩
end

mutual
/-- fewer addresses to avoid -/
theorem Dv.less (hA : ∀ a, A' a → A a) : ∀ (d : PyData) (v : V), Dv K A H d v → Dv K A' H d v
  | .none, v, h => by simp only [Dv] at h ⊢; exact h
  | .bool b, v, h => by simp only [Dv] at h ⊢; exact h
  | .int i, v, h => by simp only [Dv] at h ⊢; exact h
  | .str x, v, h => by simp only [Dv] at h ⊢; exact h
  | .tuple ds, v, h => by
    simp only [Dv] at h ⊢
    obtain ⟨a, vs, rfl, q, r⟩ := h
    exact ⟨a, vs, rfl, q, Dvs.less hA ds vs r⟩
  | .list ds, v, h => by
    simp only [Dv] at h ⊢
    obtain ⟨a, vs, rfl, q, r⟩ := h
    refine ⟨a, vs, rfl, ?_, Dvs.less hA ds vs r⟩
    rcases q with ⟨n, q⟩ | q
    · exact .inl ⟨fun z => n (hA a z), q⟩
    · exact .inr q
  | .dict kvs, v, h => by
    simp only [Dv] at h ⊢
    obtain ⟨rfl, a, rfl, n, q⟩ := h
    exact ⟨rfl, a, rfl, fun z => n (hA a z), q⟩
theorem Dvs.less (hA : ∀ a, A' a → A a) : ∀ (ds : List PyData) (vs : List V), Dvs K A H ds vs → Dvs K A' H ds vs
  | [], vs, h => by simp only [Dvs] at h ⊢; exact h
  | d :: ds, vs, h => by
    simp only [Dvs] at h ⊢
    obtain ⟨v, r, rfl, q, t⟩ := h
    exact ⟨v, r, rfl, Dv.less hA d v q, Dvs.less hA ds r t⟩
end

theorem Dvs.length : ∀ {ds : List PyData} {vs : List V}, Dvs K A H ds vs → ds.length = vs.length
  | [], vs, h => by simp only [Dvs] at h; subst h; rfl
  | d :: ds, vs, h => by
    simp only [Dvs] at h
    obtain ⟨v, r, rfl, _, t⟩ := h
    simp [Dvs.length t]
theorem Dvs.get : ∀ {ds : List PyData} {vs : List V} {i : Nat} {v : V}, Dvs K A H ds vs → vs[i]? = some v → ∃ d, ds[i]? = some d ∧ Dv K A H d v
  | [], vs, i, v, h, e => by simp only [Dvs] at h; subst h; simp at e
  | d :: ds, vs, i, v, h, e => by
    simp only [Dvs] at h
    obtain ⟨v', r, rfl, q, t⟩ := h
    cases i with
    | zero => simp at e; subst e; exact ⟨d, by simp, q⟩
    | succ i =>
      obtain ⟨d', e1, e2⟩ := Dvs.get (i := i) (v := v) t (by simpa using e)
      exact ⟨d', by simpa using e1, e2⟩
theorem Dvs.getD : ∀ {ds : List PyData} {vs : List V} {i : Nat} {d : PyData}, Dvs K A H ds vs → ds[i]? = some d → ∃ v, vs[i]? = some v ∧ Dv K A H d v
  | [], vs, i, d, h, e => by simp at e
  | d' :: ds, vs, i, d, h, e => by
    simp only [Dvs] at h
    obtain ⟨v', r, rfl, q, t⟩ := h
    cases i with
    | zero => simp at e; subst e; exact ⟨v', by simp, q⟩
    | succ i =>
      obtain ⟨v, e1, e2⟩ := Dvs.getD (i := i) (d := d) t (by simpa using e)
      exact ⟨v, by simpa using e1, e2⟩
theorem Dvs.append : ∀ {ds es : List PyData} {vs ws : List V}, Dvs K A H ds vs → Dvs K A H es ws → Dvs K A H (ds ++ es) (vs ++ ws)
  | [], es, vs, ws, h, t => by simp only [Dvs] at h; subst h; simpa using t
  | d :: ds, es, vs, ws, h, t => by
    simp only [Dvs] at h
    obtain ⟨v, r, rfl, q, u⟩ := h
    simp only [List.cons_append, Dvs]
    exact ⟨v, r ++ ws, rfl, q, Dvs.append u t⟩
theorem Dvs.one {d : PyData} {v : V} (h : Dv K A H d v) : Dvs K A H [d] [v] := by
  simp only [Dvs]; exact ⟨v, [], rfl, h, rfl⟩
theorem Dvs.nil : Dvs K A H [] [] := by simp only [Dvs]
theorem Dvs.cons {d : PyData} {v : V} {ds : List PyData} {vs : List V} (h : Dv K A H d v) (t : Dvs K A H ds vs) : Dvs K A H (d :: ds) (v :: vs) := by
  simp only [Dvs]; exact ⟨v, vs, rfl, h, t⟩
theorem Dvs.take : ∀ {ds : List PyData} {vs : List V} (n : Nat), Dvs K A H ds vs → Dvs K A H (ds.take n) (vs.take n)
  | [], vs, n, h => by simp only [Dvs] at h; subst h; simp [Dvs]
  | d :: ds, vs, 0, h => by simp [Dvs]
  | d :: ds, vs, n + 1, h => by
    simp only [Dvs] at h
    obtain ⟨v, r, rfl, q, u⟩ := h
    simp only [List.take_succ_cons]
    exact .cons q (Dvs.take n u)
theorem Dvs.drop : ∀ {ds : List PyData} {vs : List V} (n : Nat), Dvs K A H ds vs → Dvs K A H (ds.drop n) (vs.drop n)
  | [], vs, n, h => by simp only [Dvs] at h; subst h; simp [Dvs]
  | d :: ds, vs, 0, h => by simpa using h
  | d :: ds, vs, n + 1, h => by
    simp only [Dvs] at h
    obtain ⟨v, r, rfl, q, u⟩ := h
    simp only [List.drop_succ_cons]
    exact Dvs.drop n u
theorem Dvs.set {d : PyData} {v : V} (q : Dv K A H d v) : ∀ {ds : List PyData} {vs : List V} (i : Nat), Dvs K A H ds vs → Dvs K A H (ds.set i d) (vs.set i v)
  | [], vs, n, h => by simp only [Dvs] at h; subst h; simp [Dvs]
  | e :: ds, vs, 0, h => by
    simp only [Dvs] at h
    obtain ⟨w, r, rfl, _, u⟩ := h
    exact .cons q u
  | e :: ds, vs, n + 1, h => by
    simp only [Dvs] at h
    obtain ⟨w, r, rfl, q', u⟩ := h
    simp only [List.set_cons_succ]
    exact .cons q' (Dvs.set q n u)
end
end BH

set_option maxRecDepth 100000
set_option maxHeartbeats 1000000
namespace BH
open PySem PySem.Spec PyProof.Rows L2

/-- what stands in an owned object -/
inductive Cell where
  | lst (xs : List PyData)
  | dic (kvs : List (PyData × PyData))
  | ins (C : String) (fs : List (String × PyData))
inductive Mode where
  | own | bor | lock
inductive MV where
  | d (x : PyData)
  | cell (m : Mode) (c : Cell)
abbrev SE := List (Option MV)
/-- an expression's result: data, a new owned object, or what stands in a slot -/
inductive RV where
  | d (x : PyData)
  | tmp (c : Cell)
  | slot (i : Nat)

def CellR (K : PySem.W.Frag) (A : AS) (H : Hp) : Cell → Addr → Prop
  | .lst xs, a => ∃ vs, H a = some (.lst vs) ∧ Dvs K A H xs vs
  | .dic _, _ => False
  | .ins _ _, _ => False

/-- a state of a def -/
structure G where
  A : AS
  H : Hp
  st : L2.St
  env : SE

def Own (g : G) : AS := fun a => ∃ (i : Nat) (m : Mode) (c : Cell), g.env[i]? = some (some (.cell m c)) ∧ m ≠ .lock ∧ g.st[i]? = some (some (.ref a))

/-- the owned objects of all slots, locked ones too -/
def Has (g : G) : AS := fun a => ∃ (i : Nat) (m : Mode) (c : Cell), g.env[i]? = some (some (.cell m c)) ∧ g.st[i]? = some (some (.ref a))

structure G.Ok (K : PySem.W.Frag) (g : G) : Prop where
  len : g.st.length = g.env.length
  dat : ∀ (i : Nat) x, g.env[i]? = some (some (.d x)) → ∃ v, g.st[i]? = some (some v) ∧ Dv K g.A g.H x v
  cel : ∀ (i : Nat) m c, g.env[i]? = some (some (.cell m c)) → ∃ a, g.st[i]? = some (some (.ref a)) ∧ g.A a ∧ CellR K g.A g.H c a
  dis : ∀ (i j : Nat) m c m' c' a, g.env[i]? = some (some (.cell m c)) → g.env[j]? = some (some (.cell m' c')) → g.st[i]? = some (some (.ref a)) → g.st[j]? = some (some (.ref a)) → i = j
  dom : ∀ a, g.A a → g.H a ≠ none

theorem Own.sub {K : PySem.W.Frag} {g : G} (ok : g.Ok K) : ∀ a, Own g a → g.A a := fun a ⟨i, m, c, h1, _, h2⟩ => by
  obtain ⟨b, h3, h4, _⟩ := ok.cel i m c h1
  rw [h2] at h3; cases h3; exact h4

structure Stp (g g' : G) : Prop where
  ext : Ext (Own g) g.A g.H g'.A g'.H
  own : ∀ a, Own g' a → Own g a ∨ g.H a = none
  has : ∀ a, Has g' a → Has g a ∨ g.H a = none
  bor : ∀ (i : Nat) c, g.env[i]? = some (some (.cell .bor c)) → g'.st[i]? = g.st[i]? ∧ ∃ c', g'.env[i]? = some (some (.cell .bor c'))
  lck : ∀ (i : Nat) c, g.env[i]? = some (some (.cell .lock c)) → g'.st[i]? = g.st[i]? ∧ g'.env[i]? = some (some (.cell .lock c))

theorem Stp.refl (g : G) : Stp g g := ⟨.refl _ _ _, fun _ h => .inl h, fun _ h => .inl h, fun i c h => ⟨rfl, c, h⟩, fun i c h => ⟨rfl, h⟩⟩
theorem Stp.trans {K : PySem.W.Frag} {g g1 g2 : G} (ok : g.Ok K) (a : Stp g g1) (b : Stp g1 g2) : Stp g g2 where
  ext := a.ext.trans b.ext a.own ok.dom
  own := fun x h => by
    rcases b.own x h with q | q
    · exact a.own x q
    · exact .inr (none_of_dom a.ext.dom q)
  has := fun x h => by
    rcases b.has x h with q | q
    · exact a.has x q
    · exact .inr (none_of_dom a.ext.dom q)
  bor := fun i c h => by
    obtain ⟨e1, c1, h1⟩ := a.bor i c h
    obtain ⟨e2, c2, h2⟩ := b.bor i c1 h1
    exact ⟨e2.trans e1, c2, h2⟩
  lck := fun i c h => by
    obtain ⟨e1, h1⟩ := a.lck i c h
    obtain ⟨e2, h2⟩ := b.lck i c h1
    exact ⟨e2.trans e1, h2⟩
theorem Stp.dv {K : PySem.W.Frag} {g g' : G} (ok : g.Ok K) (s : Stp g g') {x : PyData} {v : V} (h : Dv K g.A g.H x v) : Dv K g'.A g'.H x v := Dv.ext s.ext (Own.sub ok) x v h
theorem Stp.dvs {K : PySem.W.Frag} {g g' : G} (ok : g.Ok K) (s : Stp g g') {x : List PyData} {v : List V} (h : Dvs K g.A g.H x v) : Dvs K g'.A g'.H x v := Dvs.ext s.ext (Own.sub ok) x v h

/-- the result v of an expression that began at the heap H0 -/
def RVR (K : PySem.W.Frag) (H0 : Hp) (g : G) : RV → V → Prop
  | .d x, v => Dv K g.A g.H x v
  | .tmp c, v => ∃ a, v = .ref a ∧ g.A a ∧ CellR K g.A g.H c a ∧ H0 a = none ∧ ¬ Has g a
  | .slot i, v => g.st[i]? = some (some v)

def Cell.data : Cell → Option PyData
  | .lst xs => some (.list xs)
  | .dic _ => none
  | .ins _ _ => none
def MV.data : MV → Option PyData
  | .d x => some x
  | .cell _ c => c.data
/-- as data, to be read -/
def RV.view : RV → SE → Option PyData
  | .d x, _ => some x
  | .tmp c, _ => c.data
  | .slot i, env => match env[i]? with
    | some (some mv) => mv.data
    | _ => none

/-- data that is read here and now: its outermost list may be an owned one -/
def Dw (K : PySem.W.Frag) (A : AS) (H : Hp) : PyData → V → Prop
  | .list ds, v => ∃ a vs, v = .ref a ∧ SqL K H a vs ∧ Dvs K A H ds vs
  | d, v => Dv K A H d v
theorem Dw.of {K : PySem.W.Frag} {A : AS} {H : Hp} {d : PyData} {v : V} (h : Dv K A H d v) : Dw K A H d v := by
  cases d with
  | list ds =>
    simp only [Dv] at h
    obtain ⟨a, vs, e, q, r⟩ := h
    exact ⟨a, vs, e, q.sq, r⟩
  | _ => exact h
theorem CellR.dw {K : PySem.W.Frag} {A : AS} {H : Hp} {c : Cell} {a : Addr} {x : PyData} (h : CellR K A H c a) (e : c.data = some x) : Dw K A H x (.ref a) := by
  cases c with
  | lst xs =>
    simp only [Cell.data, Option.some.injEq] at e
    subst e
    obtain ⟨vs, q, r⟩ := h
    exact ⟨a, vs, rfl, .inl (.inl q), r⟩
  | _ => simp [Cell.data] at e
theorem CellR.some {K : PySem.W.Frag} {A : AS} {H : Hp} {c : Cell} {a : Addr} (h : CellR K A H c a) : H a ≠ none := by
  cases c with
  | lst xs => obtain ⟨vs, q, r⟩ := h; rw [q]; simp
  | _ => exact h.elim
theorem RVR.dw {K : PySem.W.Frag} {H0 : Hp} {g : G} {r : RV} {v : V} {x : PyData} (ok : g.Ok K) (h : RVR K H0 g r v) (e : r.view g.env = some x) : Dw K g.A g.H x v := by
  cases r with
  | d y => simp only [RV.view, Option.some.injEq] at e; subst e; exact .of h
  | tmp c =>
    obtain ⟨a, rfl, _, h, _⟩ := h
    exact h.dw e
  | slot i =>
    have h1 : g.st[i]? = some (some v) := h
    cases h2 : g.env[i]? with
    | none => simp [RV.view, h2] at e
    | some o => cases o with
      | none => simp [RV.view, h2] at e
      | some mv =>
        simp only [RV.view, h2] at e
        cases mv with
        | d y =>
          simp only [MV.data, Option.some.injEq] at e; subst e
          obtain ⟨w, q1, q2⟩ := ok.dat i y h2
          rw [h1] at q1; cases q1
          exact .of q2
        | cell m c =>
          obtain ⟨a, q1, _, q2⟩ := ok.cel i m c h2
          rw [h1] at q1; cases q1
          exact q2.dw e
/-- a result is held over a further step -/
theorem RVR.step {K : PySem.W.Frag} {H0 : Hp} {g g' : G} {r : RV} {v : V} (ok : g.Ok K) (h : RVR K H0 g r v) (s : Stp g g') (e : g'.st = g.st) : RVR K H0 g' r v := by
  cases r with
  | d y => exact s.dv ok h
  | tmp c =>
    obtain ⟨a, h1, h2, h3, h4, h5⟩ := h
    have no : ¬ Own g a := fun ⟨i, m, c', q1, _, q2⟩ => h5 ⟨i, m, c', q1, q2⟩
    refine ⟨a, h1, s.ext.av1 a h2 no, ?_, h4, fun z => ?_⟩
    · cases c with
      | lst xs => obtain ⟨vs, q, r⟩ := h3; exact ⟨vs, s.ext.keep _ _ q no, s.dvs ok r⟩
      | _ => exact h3.elim
    · rcases s.has a z with q | q
      · exact h5 q
      · exact h3.some q
  | slot i => show g'.st[i]? = _; rw [e]; exact h

/-- outcome of a reading -/
inductive Res (α : Type) where
  | ok (x : α)
  | exc (c : String) (fs : List (String × PyData)) (env : SE)
  | fail
def Res.bind {α β : Type} : Res α → (α → Res β) → Res β
  | .ok x, f => f x
  | .exc c fs env, _ => .exc c fs env
  | .fail, _ => .fail

abbrev EF := SE → Res (RV × SE)

/-- an exception of the program's class c -/
def ExcR (X : Cx) (g : G) (c : String) (fs : List (String × PyData)) (cls : Value) (d : Option Addr) : Prop :=
  ∃ C, cls = .ref C ∧ X.mg (Str.ofString c) = some (.ref C) ∧
    ((fs = [] ∧ d = none) ∨ ∃ dd vs, d = some dd ∧ g.H dd = some (.xd vs) ∧ fs.length = vs.length ∧
      ∀ (i : Nat) n x, fs[i]? = some (n, x) → ∃ v, vs[i]? = some (Str.ofString n, v) ∧ Dv X.K g.A g.H x v)

/-- what is to follow an outcome -/
def Out {α : Type} (X : Cx) (W : WX) (g : G) (r : Res (α × SE)) (P : G → α → Prop) : Prop :=
  match r with
  | .ok (x, env') => ∀ g' : G, g'.env = env' → g'.st = g.st → Stp g g' → g'.Ok X.K → P g' x
  | .exc c fs env' => ∀ (g' : G) cls d, g'.env = env' → g'.st = g.st → Stp g g' → g'.Ok X.K → ExcR X g' c fs cls d → W cls d g.st g'.H
  | .fail => False

def tE (X : Cx) (W : WX) (f : EF) : TE := fun σ H Q => ∃ g : G, g.st = σ ∧ g.H = H ∧ g.Ok X.K ∧ Out X W g (f g.env) fun g' rv => ∀ v, RVR X.K g.H g' rv v → Q v g'.H
structure FE (X : Cx) (e : Expr) (f : EF) : Prop where
  pe : ∀ W, Takes X W → PE X e (tE X W f)

theorem Out.imp {α : Type} {X : Cx} {W : WX} {g : G} {r : Res (α × SE)} {P P' : G → α → Prop} (h : Out X W g r P) (hP : ∀ g' x, Stp g g' → g'.st = g.st → g'.Ok X.K → P g' x → P' g' x) : Out X W g r P' := by
  cases r with
  | ok y => obtain ⟨x, env'⟩ := y; exact fun g' e1 e2 s o => hP g' x s e2 o (h g' e1 e2 s o)
  | exc c fs env' => exact h
  | fail => exact h
/-- one step after another -/
theorem Out.bind {α β : Type} {X : Cx} {W : WX} {g : G} {r : Res (α × SE)} {k : α × SE → Res (β × SE)} {P : G → β → Prop} (ok : g.Ok X.K) (h : Out X W g (r.bind k) P) :
    Out X W g r fun g1 x => Out X W g1 (k (x, g1.env)) P := by
  cases r with
  | ok y =>
    obtain ⟨x, env'⟩ := y
    intro g1 e1 e2 s1 o1
    have h : Out X W g (k (x, env')) P := h
    rw [← e1] at h
    cases hk : k (x, g1.env) with
    | ok z =>
      rw [hk] at h
      obtain ⟨y, env2⟩ := z
      intro g2 e3 e4 s2 o2
      exact h g2 e3 (e4.trans e2) (s1.trans ok s2) o2
    | exc c fs env2 =>
      rw [hk] at h
      intro g2 cls d e3 e4 s2 o2 x2
      have := h g2 cls d e3 (e4.trans e2) (s1.trans ok s2) o2 x2
      rw [e2]; exact this
    | fail => rw [hk] at h; exact h
  | exc c fs env' => exact h
  | fail => exact h
/-- run a part -/
theorem FE.go {X : Cx} {e : Expr} {f : EF} (h : FE X e f) {W : WX} (tk : Takes X W) {g : G} (ok : g.Ok X.K) {pins : List (Addr × Obj)} {s : Shared} (I : Inv X pins g.st g.H s) {P : G → RV → Prop} (o : Out X W g (f g.env) P)
    {Q : Value → Shared → Prop} (hQ : ∀ u s' g' rv v, g'.st = g.st → Inv X pins g'.st g'.H s' → RelV v u → g'.Ok X.K → Stp g g' → RVR X.K g.H g' rv v → P g' rv → Q u s') :
    wpAny (model X.prog X.w) X.A (eval e X.env) Q X.xe s := by
  refine thn ((h.pe W tk).run pins s g.st g.H (fun v H' => ∃ g' rv, g'.H = H' ∧ g'.st = g.st ∧ g'.Ok X.K ∧ Stp g g' ∧ RVR X.K g.H g' rv v ∧ P g' rv) I ⟨g, rfl, rfl, ok, o.imp fun g' x st e o p v r => ⟨g', x, rfl, e, o, st, r, p⟩⟩) ?_
  rintro u s' ⟨v, H', I', r, g', rv, rfl, e, o', st, rr, p⟩
  exact hQ u s' g' rv v e (e ▸ I') r o' st rr p
/-- a whole result -/
theorem fe_mk {X : Cx} {e : Expr} {f : EF} (h : ∀ W, Takes X W → ∀ (g : G) (pins : List (Addr × Obj)) (s : Shared) (P : G → RV → Prop), g.Ok X.K → Inv X pins g.st g.H s → Out X W g (f g.env) P →
    wpAny (model X.prog X.w) X.A (eval e X.env) (fun u s' => ∃ v g' rv, Inv X pins g.st g'.H s' ∧ RelV v u ∧ RVR X.K g.H g' rv v ∧ P g' rv) X.xe s) : FE X e f := by
  refine ⟨fun W tk => ⟨fun pins s σ H Q I hq => ?_⟩⟩
  obtain ⟨g, rfl, rfl, ok, o⟩ := hq
  exact thn (h W tk g pins s _ ok I o) fun u s' ⟨v, g', rv, I', r, rr, p⟩ => ⟨v, g'.H, I', r, p v rr⟩
end BH

set_option maxRecDepth 100000
set_option maxHeartbeats 1000000
namespace BH
open PySem PySem.Spec PyProof.Rows L2

/-- the most items of a list, a tuple -/
def lim : Nat := 16777216
theorem lim_line : lim = sizeLine := by rw [sizeLine_eq]; rfl

section
variable {X : Cx} {W : WX} {α β : Type}
theorem Out.bind0 {g : G} {r : Res (α × SE)} {k : α × SE → Res (β × SE)} {P : G → β → Prop} (h : Out X W g (r.bind k) P) :
    Out X W g r fun g1 x => Out X W g (k (x, g1.env)) P := by
  cases r with
  | ok y =>
    obtain ⟨x, env'⟩ := y
    intro g1 e1 e2 s1 o1
    rw [e1]
    exact h
  | exc c fs env' => exact h
  | fail => exact h
theorem Out.rebase {g g1 : G} {r : Res (α × SE)} {P : G → α → Prop} (ok : g.Ok X.K) (s : Stp g g1) (e : g1.st = g.st) (h : Out X W g r P) : Out X W g1 r P := by
  cases r with
  | ok y => obtain ⟨x, env'⟩ := y; exact fun g2 e1 e2 s2 o2 => h g2 e1 (e2.trans e) (s.trans ok s2) o2
  | exc c fs env' =>
    intro g2 cls d e1 e2 s2 o2 x2
    rw [e]
    exact h g2 cls d e1 (e2.trans e) (s.trans ok s2) o2 x2
  | fail => exact h
end

/-- the address is no longer to be avoided -/
def G.free (g : G) (a : Addr) : G := { g with A := fun b => g.A b ∧ b ≠ a }
theorem G.Ok.free {K : PySem.W.Frag} {g : G} {a : Addr} (ok : g.Ok K) (h : ¬ Has g a) : (g.free a).Ok K where
  len := ok.len
  dat := fun i x e => by
    obtain ⟨v, h1, h2⟩ := ok.dat i x e
    exact ⟨v, h1, Dv.less (fun _ z => z.1) x v h2⟩
  cel := fun i m c e => by
    obtain ⟨b, h1, h2, h3⟩ := ok.cel i m c e
    refine ⟨b, h1, ⟨h2, fun z => h ⟨i, m, c, e, by rw [← z]; exact h1⟩⟩, ?_⟩
    cases c with
    | lst xs => obtain ⟨vs, q, r⟩ := h3; exact ⟨vs, q, Dvs.less (fun _ z => z.1) xs vs r⟩
    | _ => exact h3
  dis := ok.dis
  dom := fun b hb => ok.dom b hb.1

/-- a slot is stored -/
theorem own_set {g : G} {i : Nat} {mv : Option MV} {st' : L2.St} {H' : Hp} {A' : AS} {a : Addr} (hst : ∀ j, j ≠ i → st'[j]? = g.st[j]?) (h : Own { A := A', H := H', st := st', env := g.env.set i mv } a) :
    Own g a ∨ ∃ m c, mv = some (.cell m c) ∧ m ≠ .lock ∧ st'[i]? = some (some (.ref a)) := by
  obtain ⟨j, m, c, h1, h2, h3⟩ := h
  by_cases e : j = i
  · subst e
    have h1 : (g.env.set j mv)[j]? = some (some (.cell m c)) := h1
    by_cases hl : j < g.env.length
    · rw [List.getElem?_set_self hl] at h1
      exact .inr ⟨m, c, Option.some.inj h1, h2, h3⟩
    · rw [List.getElem?_eq_none (by simpa using hl)] at h1; cases h1
  · have h1 : (g.env.set i mv)[j]? = some (some (.cell m c)) := h1
    rw [List.getElem?_set_ne (Ne.symm e)] at h1
    have h3 : st'[j]? = some (some (.ref a)) := h3
    rw [hst j e] at h3
    exact .inl ⟨j, m, c, h1, h2, h3⟩

theorem has_set {g : G} {i : Nat} {mv : Option MV} {st' : L2.St} {H' : Hp} {A' : AS} {a : Addr} (hst : ∀ j, j ≠ i → st'[j]? = g.st[j]?) (h : Has { A := A', H := H', st := st', env := g.env.set i mv } a) :
    Has g a ∨ ∃ m c, mv = some (.cell m c) ∧ st'[i]? = some (some (.ref a)) := by
  obtain ⟨j, m, c, h1, h3⟩ := h
  by_cases e : j = i
  · subst e
    have h1 : (g.env.set j mv)[j]? = some (some (.cell m c)) := h1
    by_cases hl : j < g.env.length
    · rw [List.getElem?_set_self hl] at h1
      exact .inr ⟨m, c, Option.some.inj h1, h3⟩
    · rw [List.getElem?_eq_none (by simpa using hl)] at h1; cases h1
  · have h1 : (g.env.set i mv)[j]? = some (some (.cell m c)) := h1
    rw [List.getElem?_set_ne (Ne.symm e)] at h1
    have h3 : st'[j]? = some (some (.ref a)) := h3
    rw [hst j e] at h3
    exact .inl ⟨j, m, c, h1, h3⟩

def RV.take : RV → SE → Option (PyData × SE)
  | .d x, env => some (x, env)
  | .tmp c, env => match c.data with
    | some x => some (x, env)
    | none => none
  | .slot i, env => match env[i]? with
    | some (some (.d x)) => some (x, env)
    | some (some (.cell .own (.lst xs))) => some (.list xs, env.set i (some (.d (.list xs))))
    | _ => none

/-- a result becomes data -/
theorem RVR.take {K : PySem.W.Frag} {g g1 : G} {r : RV} {v : V} {x : PyData} {env2 : SE} (ok : g.Ok K) (s : Stp g g1) (e : g1.st = g.st) (o1 : g1.Ok K) (h : RVR K g.H g1 r v) (ht : r.take g1.env = some (x, env2)) :
    ∃ g2 : G, g2.env = env2 ∧ g2.st = g1.st ∧ g2.H = g1.H ∧ Stp g g2 ∧ g2.Ok K ∧ Dv K g2.A g2.H x v := by
  have drop : ∀ a, (g.H a = none ∨ Own g a) → ∀ b, g.A b → ¬ Own g b → g1.A b ∧ b ≠ a := fun a ha b hb hn => ⟨s.ext.av1 b hb hn, fun z => by
    subst z
    rcases ha with q | q
    · exact ok.dom b hb q
    · exact hn q⟩
  cases r with
  | d y =>
    simp only [RV.take, Option.some.injEq, Prod.mk.injEq] at ht
    obtain ⟨rfl, rfl⟩ := ht
    exact ⟨g1, rfl, rfl, rfl, s, o1, h⟩
  | tmp c =>
    obtain ⟨a, rfl, hA, hc, hf, hs⟩ := h
    cases c with
    | lst xs =>
      simp only [RV.take, Cell.data, Option.some.injEq, Prod.mk.injEq] at ht
      obtain ⟨rfl, rfl⟩ := ht
      obtain ⟨vs, q, r⟩ := hc
      refine ⟨g1.free a, rfl, rfl, rfl, ⟨⟨s.ext.keep, s.ext.tup, s.ext.frz, s.ext.dom, drop a (.inl hf), fun b hb => s.ext.av2 b hb.1⟩, s.own, s.has, s.bor, s.lck⟩, o1.free hs, ?_⟩
      simp only [Dv]
      exact ⟨a, vs, rfl, .inl ⟨fun z => z.2 rfl, .inl q⟩, Dvs.less (fun _ z => z.1) xs vs r⟩
    | _ => simp [RV.take, Cell.data] at ht
  | slot i =>
    have h1 : g1.st[i]? = some (some v) := h
    cases h2 : g1.env[i]? with
    | none => simp [RV.take, h2] at ht
    | some ov =>
    cases ov with
    | none => simp [RV.take, h2] at ht
    | some mv =>
    cases mv with
    | d y =>
      simp only [RV.take, h2, Option.some.injEq, Prod.mk.injEq] at ht
      obtain ⟨rfl, rfl⟩ := ht
      obtain ⟨w, q1, q2⟩ := o1.dat i y h2
      rw [h1] at q1; cases q1
      exact ⟨g1, rfl, rfl, rfl, s, o1, q2⟩
    | cell m c =>
      cases m with
      | own =>
        cases c with
        | lst xs =>
          simp only [RV.take, h2, Option.some.injEq, Prod.mk.injEq] at ht
          obtain ⟨rfl, rfl⟩ := ht
          obtain ⟨a, q1, q2, vs, q3, q4⟩ := o1.cel i _ _ h2
          rw [h1] at q1; cases q1
          have hil : i < g1.env.length := (List.getElem?_eq_some_iff.mp h2).1
          have own1 : Own g1 a := ⟨i, .own, _, h2, by simp, h1⟩
          have hdv : Dv K (fun b => g1.A b ∧ b ≠ a) g1.H (.list xs) (.ref a) := by
            simp only [Dv]
            exact ⟨a, vs, rfl, .inl ⟨fun z => z.2 rfl, .inl q3⟩, Dvs.less (fun _ z => z.1) xs vs q4⟩
          refine ⟨{ A := fun b => g1.A b ∧ b ≠ a, H := g1.H, st := g1.st, env := g1.env.set i (some (.d (.list xs))) }, rfl, rfl, rfl,
            ⟨⟨s.ext.keep, s.ext.tup, s.ext.frz, s.ext.dom, drop a ((s.own a own1).symm), fun b hb => s.ext.av2 b hb.1⟩, fun b hb => ?_, fun b hb => ?_, fun j c hj => ?_, fun j c hj => ?_⟩, ⟨by simpa using o1.len, fun j y hj => ?_, fun j m c hj => ?_, fun j k m c m' c' b hj hk e1 e2 => ?_, fun b hb => o1.dom b hb.1⟩, hdv⟩
          · rcases own_set (g := g1) (fun _ _ => rfl) hb with q | ⟨m, c, q, _⟩
            · exact s.own b q
            · cases q
          · rcases has_set (g := g1) (fun _ _ => rfl) hb with q | ⟨m, c, q, _⟩
            · exact s.has b q
            · cases q
          · obtain ⟨e1, c', e2⟩ := s.bor j c hj
            refine ⟨e1, c', ?_⟩
            have : j ≠ i := by rintro rfl; rw [h2] at e2; cases e2
            show (g1.env.set i _)[j]? = _
            rw [List.getElem?_set_ne (Ne.symm this)]; exact e2
          · obtain ⟨e1, e2⟩ := s.lck j c hj
            refine ⟨e1, ?_⟩
            have : j ≠ i := by rintro rfl; rw [h2] at e2; cases e2
            show (g1.env.set i _)[j]? = _
            rw [List.getElem?_set_ne (Ne.symm this)]; exact e2
          · have hj : (g1.env.set i _)[j]? = some (some (.d y)) := hj
            by_cases ij : j = i
            · subst ij
              rw [List.getElem?_set_self hil] at hj
              simp only [Option.some.injEq, MV.d.injEq] at hj
              subst hj
              exact ⟨_, h1, hdv⟩
            · rw [List.getElem?_set_ne (Ne.symm ij)] at hj
              obtain ⟨v, z1, z2⟩ := o1.dat j y hj
              exact ⟨v, z1, Dv.less (fun _ z => z.1) y v z2⟩
          · have hj : (g1.env.set i _)[j]? = some (some (.cell m c)) := hj
            by_cases ij : j = i
            · subst ij
              rw [List.getElem?_set_self hil] at hj; simp at hj
            · rw [List.getElem?_set_ne (Ne.symm ij)] at hj
              obtain ⟨b, z1, z2, z3⟩ := o1.cel j m c hj
              refine ⟨b, z1, ⟨z2, fun z => ?_⟩, ?_⟩
              · rw [z] at z1
                exact ij (o1.dis j i _ _ _ _ a hj h2 z1 h1)
              · cases c with
                | lst ys => obtain ⟨ws, w1, w2⟩ := z3; exact ⟨ws, w1, Dvs.less (fun _ z => z.1) ys ws w2⟩
                | _ => exact z3
          · have pr : ∀ {j : Nat} {m c}, (g1.env.set i (some (.d (.list xs))))[j]? = some (some (.cell m c)) → g1.env[j]? = some (some (.cell m c)) := fun {j m c} hj => by
              by_cases ij : j = i
              · subst ij
                rw [List.getElem?_set_self hil] at hj; simp at hj
              · rw [List.getElem?_set_ne (Ne.symm ij)] at hj; exact hj
            exact o1.dis j k m c m' c' b (pr hj) (pr hk) e1 e2
        | _ => simp [RV.take, h2] at ht
      | _ => simp [RV.take, h2] at ht

/-! ### data out of an expression -/
abbrev CF := SE → Res (PyData × SE)
def tCn (X : Cx) (W : WX) (f : CF) : TE := fun σ H Q => ∃ g : G, g.st = σ ∧ g.H = H ∧ g.Ok X.K ∧ Out X W g (f g.env) fun g' x => ∀ v, Dv X.K g'.A g'.H x v → Q v g'.H
structure FC (X : Cx) (e : Expr) (f : CF) : Prop where
  pe : ∀ W, Takes X W → PE X e (tCn X W f)
def fTake (f : EF) : CF := fun env => (f env).bind fun p => match p.1.take p.2 with
  | some q => .ok q
  | none => .fail
theorem FE.take {X : Cx} {e : Expr} {f : EF} (h : FE X e f) : FC X e (fTake f) := by
  refine ⟨fun W tk => ⟨fun pins s σ H Q I hq => ?_⟩⟩
  obtain ⟨g, rfl, rfl, ok, o⟩ := hq
  refine h.go tk ok I o.bind0 fun u s' g1 rv v e1 I1 r o1 st rr p => ?_
  cases ht : rv.take g1.env with
  | none => rw [ht] at p; exact p.elim
  | some q =>
    obtain ⟨x, env2⟩ := q
    rw [ht] at p
    obtain ⟨g2, k1, k2, k3, k4, k5, k6⟩ := rr.take ok st e1 o1 ht
    refine ⟨v, g2.H, ?_, r, p g2 k1 (k2.trans e1) k4 k5 v k6⟩
    rw [k3, ← e1]; exact I1
theorem FC.go {X : Cx} {e : Expr} {f : CF} (h : FC X e f) {W : WX} (tk : Takes X W) {g : G} (ok : g.Ok X.K) {pins : List (Addr × Obj)} {s : Shared} (I : Inv X pins g.st g.H s) {P : G → PyData → Prop} (o : Out X W g (f g.env) P)
    {Q : Value → Shared → Prop} (hQ : ∀ u s' g' x v, g'.st = g.st → Inv X pins g'.st g'.H s' → RelV v u → g'.Ok X.K → Stp g g' → Dv X.K g'.A g'.H x v → P g' x → Q u s') :
    wpAny (model X.prog X.w) X.A (eval e X.env) Q X.xe s := by
  refine thn ((h.pe W tk).run pins s g.st g.H (fun v H' => ∃ g' x, g'.H = H' ∧ g'.st = g.st ∧ g'.Ok X.K ∧ Stp g g' ∧ Dv X.K g'.A g'.H x v ∧ P g' x) I ⟨g, rfl, rfl, ok, o.imp fun g' x st e o p v r => ⟨g', x, rfl, e, o, st, r, p⟩⟩) ?_
  rintro u s' ⟨v, H', I', r, g', x, rfl, e, o', st, rr, p⟩
  exact hQ u s' g' x v e (e ▸ I') r o' st rr p

/-- several, one after another -/
abbrev CFs := SE → Res (List PyData × SE)
def tCs (X : Cx) (W : WX) (f : CFs) : TA := fun σ H Q => ∃ g : G, g.st = σ ∧ g.H = H ∧ g.Ok X.K ∧ Out X W g (f g.env) fun g' x => ∀ v, Dvs X.K g'.A g'.H x v → Q v g'.H
structure FCs (X : Cx) (es : List Expr) (f : CFs) : Prop where
  pa : ∀ W, Takes X W → PA X es (tCs X W f)
def fNil : CFs := fun env => .ok ([], env)
def fCons (f : CF) (t : CFs) : CFs := fun env => (f env).bind fun p => (t p.2).bind fun q => .ok (p.1 :: q.1, q.2)
theorem fcs_nil {X : Cx} : FCs X [] fNil := ⟨fun W tk => ⟨fun pos pins s σ H Q I hq => by
  obtain ⟨g, rfl, rfl, ok, o⟩ := hq
  exact pa_nil.run pos pins s g.st g.H Q I (o g rfl rfl (.refl g) ok [] .nil)⟩⟩
theorem FCs.go {X : Cx} {es : List Expr} {f : CFs} (h : FCs X es f) {W : WX} (tk : Takes X W) {g : G} (ok : g.Ok X.K) {pos : Pos} {pins : List (Addr × Obj)} {s : Shared} (I : Inv X pins g.st g.H s) {P : G → List PyData → Prop} (o : Out X W g (f g.env) P)
    {Q : List Value → Shared → Prop} (hQ : ∀ u s' g' x v, g'.st = g.st → Inv X pins g'.st g'.H s' → Vals v u → g'.Ok X.K → Stp g g' → Dvs X.K g'.A g'.H x v → P g' x → Q u s') :
    wpAny (model X.prog X.w) X.A (spliced (backTo pos (starEach es X.env))) Q X.xe s := by
  refine thn ((h.pa W tk).run pos pins s g.st g.H (fun v H' => ∃ g' x, g'.H = H' ∧ g'.st = g.st ∧ g'.Ok X.K ∧ Stp g g' ∧ Dvs X.K g'.A g'.H x v ∧ P g' x) I ⟨g, rfl, rfl, ok, o.imp fun g' x st e o p v r => ⟨g', x, rfl, e, o, st, r, p⟩⟩) ?_
  rintro u s' ⟨v, H', I', r, g', x, rfl, e, o', st, rr, p⟩
  exact hQ u s' g' x v e (e ▸ I') r o' st rr p
theorem fcs_cons {X : Cx} {e : Expr} {es : List Expr} {f : CF} {t : CFs} (h : FC X e f) (ht : FCs X es t) (hs : starEach (e :: es) X.env = (false, eval e X.env) :: starEach es X.env := by rfl) : FCs X (e :: es) (fCons f t) := by
  refine ⟨fun W tk => ⟨fun pos pins s σ H Q I hq => ?_⟩⟩
  obtain ⟨g, rfl, rfl, ok, o⟩ := hq
  rw [hs]
  show wpAny _ _ (spliced ((false, eval e X.env) :: backTo pos (starEach es X.env))) _ _ s
  refine Calls.spliced_cons (h.go tk ok I o.bind0 fun u s1 g1 x v e1 I1 r o1 st rr p => ?_)
  refine ht.go tk o1 I1 (p.rebase ok st e1).bind0 fun us s2 g2 xs vs e2 I2 r2 o2 st2 rr2 p2 => ?_
  exact ⟨v :: vs, g2.H, by rw [← e1, ← e2]; exact I2, .cons r r2, p2 g2 rfl e2 st2 o2 _ (.cons (st2.dv o1 rr) rr2)⟩

/-! ### new tuples, new lists -/
theorem alloc_ext {O A : AS} {H : Hp} {p : Addr} {o : HO} (hp : H p = none) : Ext O A H A (upd H p o) where
  keep := fun a u h _ => by rw [upd_ne (fun z => by rw [z, hp] at h; cases h)]; exact h
  tup := fun a u h => by rw [upd_ne (fun z => by rw [z, hp] at h; cases h)]; exact h
  frz := fun a u w h => by rw [upd_ne (fun z => by rw [z, hp] at h; cases h)]; exact h
  dom := fun a h => by rw [upd_ne (fun z => by rw [z] at h; exact h hp)]; exact h
  av1 := fun _ h _ => h
  av2 := fun _ h => .inl h
theorem G.Ok.ext {K : PySem.W.Frag} {g : G} {A' : AS} {H' : Hp} (ok : g.Ok K) (e : Ext (fun _ => False) g.A g.H A' H') (hA : ∀ a, g.A a → A' a) (hd : ∀ a, A' a → H' a ≠ none) : ({ g with A := A', H := H' } : G).Ok K where
  len := ok.len
  dat := fun i x h => by
    obtain ⟨v, h1, h2⟩ := ok.dat i x h
    exact ⟨v, h1, Dv.ext e (fun _ z => z.elim) x v h2⟩
  cel := fun i m c h => by
    obtain ⟨a, h1, h2, h3⟩ := ok.cel i m c h
    refine ⟨a, h1, hA a h2, ?_⟩
    cases c with
    | lst xs => obtain ⟨vs, q, r⟩ := h3; exact ⟨vs, e.keep _ _ q (fun z => z), Dvs.ext e (fun _ z => z.elim) xs vs r⟩
    | _ => exact h3.elim
  dis := ok.dis
  dom := hd
theorem alloc_tup {K : PySem.W.Frag} {g : G} {p : Addr} {xs : List PyData} {vs : List V} (ok : g.Ok K) (hp : g.H p = none) (h : Dvs K g.A g.H xs vs) :
    Stp g { g with H := upd g.H p (.tup vs) } ∧ ({ g with H := upd g.H p (.tup vs) } : G).Ok K ∧ Dv K g.A (upd g.H p (.tup vs)) (.tuple xs) (.ref p) := by
  have e : ∀ O, Ext O g.A g.H g.A (upd g.H p (.tup vs)) := fun O => alloc_ext hp
  refine ⟨⟨e _, fun _ h => .inl h, fun _ h => .inl h, fun i c h => ⟨rfl, c, h⟩, fun i c h => ⟨rfl, h⟩⟩, ok.ext (e _) (fun _ h => h) (fun a h => (e (fun _ => False)).dom a (ok.dom a h)), ?_⟩
  simp only [Dv]
  exact ⟨p, vs, rfl, .of upd_same, Dvs.ext (e (fun _ => False)) (fun _ z => z.elim) xs vs h⟩
theorem alloc_lst {K : PySem.W.Frag} {g : G} {p : Addr} {xs : List PyData} {vs : List V} (ok : g.Ok K) (hp : g.H p = none) (h : Dvs K g.A g.H xs vs) :
    Stp g { g with A := fun b => g.A b ∨ b = p, H := upd g.H p (.lst vs) } ∧ ({ g with A := fun b => g.A b ∨ b = p, H := upd g.H p (.lst vs) } : G).Ok K ∧
      RVR K g.H { g with A := fun b => g.A b ∨ b = p, H := upd g.H p (.lst vs) } (.tmp (.lst xs)) (.ref p) := by
  have e : ∀ O, Ext O g.A g.H (fun b => g.A b ∨ b = p) (upd g.H p (.lst vs)) := fun O =>
    let z := alloc_ext (O := O) (A := g.A) (o := .lst vs) hp
    ⟨z.keep, z.tup, z.frz, z.dom, fun _ h _ => .inl h, fun a h => h.elim .inl fun q => .inr (q ▸ hp)⟩
  refine ⟨⟨e _, fun _ h => .inl h, fun _ h => .inl h, fun i c h => ⟨rfl, c, h⟩, fun i c h => ⟨rfl, h⟩⟩, ok.ext (e _) (fun _ h => .inl h) (fun a h => ?_), p, rfl, .inr rfl, ⟨vs, upd_same, Dvs.ext (e (fun _ => False)) (fun _ z => z.elim) xs vs h⟩, hp, fun ⟨i, m, c, hi, z⟩ => ?_⟩
  · rcases h with h | h
    · exact (e (fun _ => False)).dom a (ok.dom a h)
    · rw [h, upd_same]; simp
  · obtain ⟨a, h1, _, h3⟩ := ok.cel i m c hi
    have z : g.st[i]? = some (some (.ref p)) := z
    rw [h1] at z; cases z
    exact h3.some hp

def fTup (f : CFs) : EF := fun env => (f env).bind fun p => if p.1.length ≤ lim then .ok (.d (.tuple p.1), p.2) else .fail
def fLst (f : CFs) : EF := fun env => (f env).bind fun p => if p.1.length ≤ lim then .ok (.tmp (.lst p.1), p.2) else .fail
theorem fe_tup {X : Cx} {es : List Expr} {f : CFs} {k : Nat} {pos : Pos} (h : FCs X es f) : FE X (.Tuple es k pos) (fTup f) := by
  refine ⟨fun W tk => ⟨fun pins s σ H Q I hq => ?_⟩⟩
  obtain ⟨g, rfl, rfl, ok, o⟩ := hq
  refine (pe_tup (h.pa W tk)).run pins s g.st g.H Q I ⟨g, rfl, rfl, ok, o.bind0.imp fun g1 xs st e o1 p vs r => ?_⟩
  by_cases hl : xs.length ≤ lim
  · simp only [if_pos hl] at p
    refine ⟨by rw [← r.length, ← lim_line]; exact hl, fun q hq => ?_⟩
    obtain ⟨s2, o2, r2⟩ := alloc_tup o1 hq r
    exact p { g1 with H := upd g1.H q (.tup vs) } rfl e (st.trans ok s2) o2 _ r2
  · simp only [if_neg hl] at p
    exact p.elim
theorem RVR.old {K : PySem.W.Frag} {H0 H1 : Hp} {g : G} {r : RV} {v : V} (h : RVR K H1 g r v) (d : ∀ a, H0 a ≠ none → H1 a ≠ none) : RVR K H0 g r v := by
  cases r with
  | tmp c => obtain ⟨a, h1, h2, h3, h4, h5⟩ := h; exact ⟨a, h1, h2, h3, none_of_dom d h4, h5⟩
  | _ => exact h
theorem fe_lst {X : Cx} {es : List Expr} {f : CFs} {pos : Pos} (h : FCs X es f) : FE X (.List es pos) (fLst f) := by
  refine ⟨fun W tk => ⟨fun pins s σ H Q I hq => ?_⟩⟩
  obtain ⟨g, rfl, rfl, ok, o⟩ := hq
  refine (pe_lst (h.pa W tk)).run pins s g.st g.H Q I ⟨g, rfl, rfl, ok, o.bind0.imp fun g1 xs st e o1 p vs r => ?_⟩
  by_cases hl : xs.length ≤ lim
  · simp only [if_pos hl] at p
    refine ⟨by rw [← r.length, ← lim_line]; exact hl, fun q hq => ?_⟩
    obtain ⟨s2, o2, r2⟩ := alloc_lst o1 hq r
    exact p { g1 with A := fun b => g1.A b ∨ b = q, H := upd g1.H q (.lst vs) } rfl e (st.trans ok s2) o2 _ (r2.old st.ext.dom)
  · simp only [if_neg hl] at p
    exact p.elim

/-! ### names, constants -/
def fName (i : Nat) : EF := fun env => match env[i]? with
  | some (some (.d x)) => .ok (.d x, env)
  | some (some (.cell _ _)) => .ok (.slot i, env)
  | _ => .fail
theorem fe_name {X : Cx} {e : Expr} {i : Nat} (h : PE X e (tVar i)) : FE X e (fName i) := by
  refine ⟨fun W tk => ⟨fun pins s σ H Q I hq => ?_⟩⟩
  obtain ⟨g, rfl, rfl, ok, o⟩ := hq
  cases he : g.env[i]? with
  | none => simp only [fName, he] at o; exact o.elim
  | some y => cases y with
    | none => simp only [fName, he] at o; exact o.elim
    | some mv => cases mv with
      | d x =>
        simp only [fName, he] at o
        obtain ⟨v, h1, h2⟩ := ok.dat i x he
        exact h.run pins s g.st g.H Q I ⟨v, h1, o g rfl rfl (.refl g) ok v h2⟩
      | cell m c =>
        simp only [fName, he] at o
        obtain ⟨a, h1, h2, h3⟩ := ok.cel i m c he
        exact h.run pins s g.st g.H Q I ⟨_, h1, o g rfl rfl (.refl g) ok _ h1⟩
def fC (x : PyData) : EF := fun env => .ok (.d x, env)
theorem fe_c {X : Cx} {e : Expr} {x : PyData} {v : V} (h : PE X e (L2.tC v)) (hx : ∀ K A H, Dv K A H x v) : FE X e (fC x) := by
  refine ⟨fun W tk => ⟨fun pins s σ H Q I hq => ?_⟩⟩
  obtain ⟨g, rfl, rfl, ok, o⟩ := hq
  exact h.run pins s g.st g.H Q I (o g rfl rfl (.refl g) ok _ (hx _ _ _))
theorem fe_int {X : Cx} {i j pos} : FE X (.Constant (.int i) j pos) (fC (.int i)) := fe_c pe_int fun _ _ _ => by simp only [Dv]
theorem fe_bl {X : Cx} {i j pos} : FE X (.Constant (.bool i) j pos) (fC (.bool i)) := fe_c pe_bl fun _ _ _ => by simp only [Dv]
theorem fe_non {X : Cx} {j pos} : FE X (.Constant .none j pos) (fC .none) := fe_c pe_non fun _ _ _ => by simp only [Dv]
theorem fe_str {X : Cx} {i j pos} : FE X (.Constant (.str i) j pos) (fC (.str i)) := fe_c pe_str fun _ _ _ => by simp only [Dv]
/-- a module's int -/
theorem fe_gint {X : Cx} {x : Str} {i : Int} {t : Tok} {pos : Pos} (hg : Gl X x) (hm : X.mg x = some (.int i t)) (hd : (x == ("__debug__" : Str)) = false := by decide) : FE X (.Name x pos) (fC (.int i)) :=
  fe_c (v := .int i) (pe_glob hg hm ⟨t, rfl⟩ hd) fun _ _ _ => by simp only [Dv]
end BH

set_option maxRecDepth 100000
set_option maxHeartbeats 2000000
namespace BH
open PySem PySem.Spec PyProof.Rows L2

section
variable {X : Cx} {pins : List (Addr × Obj)} {σ : L2.St} {H : Hp} {s : Shared} {A : AS}
mutual
theorem Dv.reads (I : Inv X pins σ H s) : ∀ (d : PyData) (v : V) (u : Value), Dv X.K A H d v → RelV v u → ∃ as, Reads s.heap u d as
  | .none, v, u, h, r => by simp only [Dv] at h; subst h; cases r; exact ⟨[], .none⟩
  | .bool b, v, u, h, r => by simp only [Dv] at h; subst h; cases r; exact ⟨[], .bool b⟩
  | .int i, v, u, h, r => by simp only [Dv] at h; subst h; obtain ⟨t, rfl⟩ := r; exact ⟨[], .int i t⟩
  | .str x, v, u, h, r => by simp only [Dv] at h; subst h; obtain ⟨t, rfl⟩ := r; exact ⟨[], .str x t⟩
  | .tuple ds, v, u, h, r => by
    simp only [Dv] at h
    obtain ⟨a, vs, rfl, q, t⟩ := h
    cases r
    obtain ⟨its, rv, p, hz⟩ := I.tuple q
    obtain ⟨o, e1, e2, n, e3⟩ := p
    obtain ⟨as, hr⟩ := Dvs.reads I ds vs its t rv
    exact ⟨as, .tuple e1 e2 e3 (by simpa using hr)⟩
  | .list ds, v, u, h, r => by
    simp only [Dv] at h
    obtain ⟨a, vs, rfl, q, t⟩ := h
    cases r
    obtain ⟨its, rv, ⟨o, n, e1, e2, e3, e4⟩, hz⟩ := I.list q.sq
    obtain ⟨as, hr⟩ := Dvs.reads I ds vs its t rv
    exact ⟨_, .list e1 e2 e4 (by simpa using hr)⟩
  | .dict kvs, v, u, h, r => by
    simp only [Dv] at h
    obtain ⟨rfl, a, rfl, _, q⟩ := h
    cases r
    obtain ⟨_, _, vs, rk, ob, es, ep, e, ex, hd, _, hes, _⟩ := I.hok a _ q
    cases rk
    have he : es.toList = [] := by
      cases hq : es.toList with
      | nil => rfl
      | cons a r => rw [hq] at hes; cases hes
    exact ⟨_, .dict (as := []) (bs := []) e ex.1 hd (by rw [he]; exact .nil) (by rw [he]; exact .nil)⟩
theorem Dvs.reads (I : Inv X pins σ H s) : ∀ (ds : List PyData) (vs : List V) (us : List Value), Dvs X.K A H ds vs → Vals vs us → ∃ as, ReadsAll s.heap us ds as
  | [], vs, us, h, r => by simp only [Dvs] at h; subst h; cases r; exact ⟨[], .nil⟩
  | d :: ds, vs, us, h, r => by
    simp only [Dvs] at h
    obtain ⟨v, t, rfl, q, z⟩ := h
    cases r with
    | cons r1 r2 =>
      obtain ⟨as, q1⟩ := Dv.reads I d v _ q r1
      obtain ⟨bs, q2⟩ := Dvs.reads I ds t _ z r2
      exact ⟨as ++ bs, .cons q1 q2⟩
end
theorem Dw.reads (I : Inv X pins σ H s) {d : PyData} {v : V} {u : Value} (h : Dw X.K A H d v) (r : RelV v u) : ∃ as, Reads s.heap u d as := by
  cases d with
  | list ds =>
    obtain ⟨a, vs, rfl, q, t⟩ := h
    cases r
    obtain ⟨its, rv, ⟨o, n, e1, e2, e3, e4⟩, hz⟩ := I.list q
    obtain ⟨as, hr⟩ := Dvs.reads I ds vs its t rv
    exact ⟨_, .list e1 e2 e4 (by simpa using hr)⟩
  | _ => exact Dv.reads (A := A) I _ _ _ h r
end

/-! ### operators by values -/
/-- what an operator hands back -/
def OpQ (X : Cx) (pins : List (Addr × Obj)) (g : G) (r : RV) (z : Value) (s' : Shared) : Prop :=
  ∃ v g', g'.st = g.st ∧ g'.env = g.env ∧ Inv X pins g.st g'.H s' ∧ RelV v z ∧ Stp g g' ∧ g'.Ok X.K ∧ RVR X.K g.H g' r v
def OpD (X : Cx) (f : Value → Value → Sem Value) (op : PyData → PyData → Option RV) : Prop :=
  ∀ (g : G) (pins : List (Addr × Obj)) (s : Shared) (x y : PyData) (v w : V) (u t : Value) (r : RV), g.Ok X.K → Inv X pins g.st g.H s → Dw X.K g.A g.H x v → Dw X.K g.A g.H y w → RelV v u → RelV w t → op x y = some r →
    wpAny (model X.prog X.w) X.A (f u t) (OpQ X pins g r) X.xe s
def UnD (X : Cx) (f : Value → Sem Value) (op : PyData → Option RV) : Prop :=
  ∀ (g : G) (pins : List (Addr × Obj)) (s : Shared) (x : PyData) (v : V) (u : Value) (r : RV), g.Ok X.K → Inv X pins g.st g.H s → Dw X.K g.A g.H x v → RelV v u → op x = some r →
    wpAny (model X.prog X.w) X.A (f u) (OpQ X pins g r) X.xe s
theorem OpQ.same {X : Cx} {pins : List (Addr × Obj)} {g : G} {x : PyData} {v : V} {z : Value} {s : Shared} (ok : g.Ok X.K) (I : Inv X pins g.st g.H s) (r : RelV v z) (h : Dv X.K g.A g.H x v) : OpQ X pins g (.d x) z s :=
  ⟨v, g, rfl, rfl, I, r, .refl g, ok, h⟩
theorem opq_bl {X : Cx} {pins : List (Addr × Obj)} {g : G} {b : Bool} {s : Shared} (ok : g.Ok X.K) (I : Inv X pins g.st g.H s) : OpQ X pins g (.d (.bool b)) (.bool b) s :=
  ⟨.bl b, g, rfl, rfl, I, rfl, .refl g, ok, by show Dv _ _ _ _ _; simp only [Dv]⟩
/-- a scalar -/
def scalD : PyData → Option V
  | .none => some .non
  | .bool b => some (.bl b)
  | .int i => some (.int i)
  | .str x => some (.str x)
  | _ => none
theorem dv_scal {K : PySem.W.Frag} {A : AS} {H : Hp} {x : PyData} {v : V} (h : scalD x = some v) : Dv K A H x v := by
  cases x <;> simp [scalD] at h <;> subst h <;> simp only [Dv]
theorem dw_scal {K : PySem.W.Frag} {A : AS} {H : Hp} {x : PyData} {v w : V} (h : scalD x = some w) (d : Dw K A H x v) : v = w := by
  cases x <;> simp [scalD] at h <;> subst h <;> (have d : Dv K A H _ v := d) <;> simpa only [Dv] using d
/-- from a rule of HandS: the result is a scalar, the heap stays -/
theorem OpD.of {X : Cx} {f : Value → Value → Sem Value} {r : R2} {op : PyData → PyData → Option RV} (h : OpR X f r)
    (hq : ∀ (g : G) (pins : List (Addr × Obj)) (s : Shared) (x y : PyData) (v w : V) (res : RV) (Q : VK), g.Ok X.K → Inv X pins g.st g.H s → Dw X.K g.A g.H x v → Dw X.K g.A g.H y w → op x y = some res →
      (∀ v' (g' : G), g'.st = g.st → g'.env = g.env → Stp g g' → g'.Ok X.K → RVR X.K g.H g' res v' → Q v' g'.H) → r v w g.H Q) : OpD X f op := by
  intro g pins s x y v w u t res ok I hx hy rv rw e
  refine thn (h pins s g.st g.H v w u t (fun v' H' => ∃ g' : G, g'.H = H' ∧ g'.st = g.st ∧ g'.env = g.env ∧ Stp g g' ∧ g'.Ok X.K ∧ RVR X.K g.H g' res v') I rv rw (hq g pins s x y v w res _ ok I hx hy e fun v' g' e1 e2 e3 e4 e5 => ⟨g', rfl, e1, e2, e3, e4, e5⟩)) ?_
  rintro z s' ⟨v', H', I', r', g', rfl, e1, e2, e3, e4, e5⟩
  exact ⟨v', g', e1, e2, I', r', e3, e4, e5⟩

def fBin (op : PyData → PyData → Option RV) (fa fb : EF) : EF := fun env => (fa env).bind fun p => (fb p.2).bind fun q =>
  match p.1.view q.2, q.1.view q.2 with
  | some x, some y => match op x y with
    | some r => .ok (r, q.2)
    | none => .fail
  | _, _ => .fail
theorem RVR.sub {K : PySem.W.Frag} {H0 : Hp} {g : G} {r : RV} {v : V} (h : RVR K g.H g r v) (d : ∀ a, H0 a ≠ none → g.H a ≠ none) : RVR K H0 g r v := h.old d
/-- two operands, then f -/
theorem two {X : Cx} {W : WX} {a b : Expr} {fa fb : EF} {op : PyData → PyData → Option RV} {f : Value → Value → Sem Value} (tk : Takes X W) (ha : FE X a fa) (hb : FE X b fb) (ho : OpD X f op) {g : G} {pins : List (Addr × Obj)} {s : Shared}
    (ok : g.Ok X.K) (I : Inv X pins g.st g.H s) {P : G → RV → Prop} (o : Out X W g (fBin op fa fb g.env) P) {Q : Value → Shared → Prop}
    (hQ : ∀ z s' g' rv v, Inv X pins g.st g'.H s' → RelV v z → RVR X.K g.H g' rv v → P g' rv → Q z s') :
    wpAny (model X.prog X.w) X.A (eval a X.env) (fun u s₁ => wpAny (model X.prog X.w) X.A (eval b X.env) (fun t s₂ => wpAny (model X.prog X.w) X.A (f u t) Q X.xe s₂) X.xe s₁) X.xe s := by
  refine ha.go tk ok I o.bind0 fun u s1 g1 r1 v1 e1 I1 rl1 ok1 st1 rr1 p1 => ?_
  refine hb.go tk ok1 I1 (p1.rebase ok st1 e1).bind0 fun t s2 g2 r2 v2 e2 I2 rl2 ok2 st2 rr2 p2 => ?_
  have rr1' := rr1.step ok1 st2 e2
  have st := st1.trans ok st2
  cases hx : r1.view g2.env with
  | none => rw [hx] at p2; exact p2.elim
  | some x =>
    cases hy : r2.view g2.env with
    | none => rw [hx, hy] at p2; exact p2.elim
    | some y =>
      rw [hx, hy] at p2
      simp only at p2
      cases hr : op x y with
      | none => rw [hr] at p2; exact p2.elim
      | some r =>
        rw [hr] at p2
        refine thn (ho g2 pins s2 x y v1 v2 u t r ok2 I2 (rr1'.dw ok2 hx) (rr2.dw ok2 hy) rl1 rl2 hr) ?_
        rintro z s3 ⟨v, g3, e3, e4, I3, rl3, st3, ok3, rr3⟩
        have st23 := st2.trans ok1 st3
        exact hQ z s3 g3 r v (by rw [← e1, ← e2]; exact I3) rl3 (rr3.old st.ext.dom) (p2 g3 e4 (e3.trans e2) st23 ok3)
theorem fe_bin {X : Cx} {a b : Expr} {op : Operator} {fa fb : EF} {o : PyData → PyData → Option RV} {pos : Pos} (ho : OpD X (binaryOp op) o) (ha : FE X a fa) (hb : FE X b fb) : FE X (.BinOp a op b pos) (fBin o fa fb) :=
  fe_mk fun W tk g pins s P ok I h => wpAny_BinOp (two tk ha hb ho ok I h fun z s' g' rv v I' r rr p => ⟨v, g', rv, I', r, rr, p⟩)
theorem fe_cmp {X : Cx} {a b : Expr} {op : CmpOp} {fa fb : EF} {o : PyData → PyData → Option RV} {pos : Pos} (ho : OpD X (compareOp op) o) (ha : FE X a fa) (hb : FE X b fb) (hm : behindInMarks op b = false := by rfl) : FE X (.Compare a [op] [b] pos) (fBin o fa fb) :=
  fe_mk fun W tk g pins s P ok I h => wpAny_Compare1 (two tk ha hb ho ok I h fun z s' g' rv v I' r rr p => ⟨v, g', rv, I', r, rr, p⟩) hm

/-! ### + - * // % ** -/
def opAdd : PyData → PyData → Option RV
  | .int i, .int j => some (.d (.int (i + j)))
  | .str a, .str b => if a.length + b.length ≤ lim then some (.d (.str (a ++ b))) else none
  | .tuple a, .tuple b => if a.length + b.length ≤ lim then some (.d (.tuple (a ++ b))) else none
  | .list a, .list b => if a.length + b.length ≤ lim then some (.tmp (.lst (a ++ b))) else none
  | _, _ => none
def opSub : PyData → PyData → Option RV
  | .int i, .int j => some (.d (.int (i - j)))
  | _, _ => none
def mulG (i j : Int) : Prop := ((-(2 ^ 64) < i ∧ i < 2 ^ 64) ∨ (-(2 ^ 64) < j ∧ j < 2 ^ 64)) ∨ i.natAbs.log2 + j.natAbs.log2 < 1000000
instance (i j : Int) : Decidable (mulG i j) := by unfold mulG; exact inferInstance
def opMul : PyData → PyData → Option RV
  | .int i, .int j => if mulG i j then some (.d (.int (i * j))) else none
  | _, _ => none
def divG (j : Int) : Prop := 0 < j ∧ j.natAbs.log2 < 9000
instance (j : Int) : Decidable (divG j) := by unfold divG; exact inferInstance
def divN (j : Int) : Prop := j ≠ 0 ∧ j.natAbs < 1073741824
instance (j : Int) : Decidable (divN j) := by unfold divN; exact inferInstance
def opDiv : PyData → PyData → Option RV
  | .int i, .int j => if divG j then some (.d (.int (i / j))) else if divN j then some (.d (.int (i.fdiv j))) else none
  | _, _ => none
def opMod : PyData → PyData → Option RV
  | .int i, .int j => if 0 < j then some (.d (.int (i % j))) else if j ≠ 0 then some (.d (.int (i.fmod j))) else none
  | _, _ => none
def powG (i j : Int) : Prop := 0 ≤ j ∧ j ≤ 1000000 ∧ i.natAbs < 2 ^ 64
instance (i j : Int) : Decidable (powG i j) := by unfold powG; exact inferInstance
def opPow : PyData → PyData → Option RV
  | .int i, .int j => if powG i j then some (.d (.int (i ^ j.toNat))) else none
  | _, _ => none

section
variable {X : Cx}
theorem dw_int {K : PySem.W.Frag} {A : AS} {H : Hp} {i : Int} {v : V} (d : Dw K A H (.int i) v) : v = .int i := dw_scal (x := .int i) rfl d
theorem dw_str {K : PySem.W.Frag} {A : AS} {H : Hp} {i : Str} {v : V} (d : Dw K A H (.str i) v) : v = .str i := dw_scal (x := .str i) rfl d
theorem dv_int {K : PySem.W.Frag} {A : AS} {H : Hp} {i : Int} : Dv K A H (.int i) (.int i) := dv_scal (x := .int i) rfl
theorem dv_bl {K : PySem.W.Frag} {A : AS} {H : Hp} {i : Bool} : Dv K A H (.bool i) (.bl i) := dv_scal (x := .bool i) rfl
theorem dv_str {K : PySem.W.Frag} {A : AS} {H : Hp} {i : Str} : Dv K A H (.str i) (.str i) := dv_scal (x := .str i) rfl
theorem dv_non {K : PySem.W.Frag} {A : AS} {H : Hp} : Dv K A H .none .non := dv_scal (x := .none) rfl
theorem dw_tup {K : PySem.W.Frag} {A : AS} {H : Hp} {ds : List PyData} {v : V} (d : Dw K A H (.tuple ds) v) : ∃ a vs, v = .ref a ∧ SqT K H a vs ∧ Dvs K A H ds vs := by
  have d : Dv K A H (.tuple ds) v := d
  simpa only [Dv] using d
theorem dw_lst {K : PySem.W.Frag} {A : AS} {H : Hp} {ds : List PyData} {v : V} (d : Dw K A H (.list ds) v) : ∃ a vs, v = .ref a ∧ SqL K H a vs ∧ Dvs K A H ds vs := d
theorem cat_lists {prog : Program} {w : World} {A : Around} {E : Value → Shared → Prop} {s : Shared} {l b : Addr} {xs ys : Array Value} {n n2 : Nat} {dd dd2 : Option Addr} {sl sl2 : Array (Option Value)} {Q : Value → Shared → Prop}
    (ho : s.heap.get? l = some { cls := .type "list", dict := dd, data := .seq xs n, slots := sl }) (ho2 : s.heap.get? b = some { cls := .type "list", dict := dd2, data := .seq ys n2, slots := sl2 }) (hsz : xs.size + ys.size ≤ sizeLine)
    (h : Q (.ref s.heap.objs.size) { s with heap := s.heap.push { cls := .type "list", data := .seq (xs ++ ys) } }) : wpAny (model prog w) A (binaryOp .Add (.ref l) (.ref b)) Q E s :=
  concat_meets ⟨_, ho, rfl⟩ ⟨_, ho2, rfl⟩ noFill_list_add seq_list_add F.slot_list_add F.entry_list_add (F.args_list_add_2 _ _)
    (list_addW l b xs ys n n2 dd dd2 sl sl2 hsz) ⟨ho, ho2, h⟩
/-- list + list, whatever holds them -/
theorem op_catR : OpR X (binaryOp .Add) (fun x y H Q => ∃ l b xs zs, x = .ref l ∧ y = .ref b ∧ SqL X.K H l xs ∧ SqL X.K H b zs ∧ xs.length + zs.length ≤ sizeLine ∧ ∀ p, H p = none → Q (.ref p) (upd H p (.lst (xs ++ zs)))) := by
  intro pins s σ H x y v u Q I rx ry h
  obtain ⟨l, b, xs, zs, rfl, rfl, hH, hB, hz, q⟩ := h
  cases rx
  cases ry
  obtain ⟨its, r, ⟨⟨cls, dd, data, sl⟩, n, ho, hc, hdd, hd⟩, z⟩ := I.list hH
  obtain ⟨its2, r2, ⟨⟨cls2, dd2, data2, sl2⟩, n2, ho2, hc2, hdd2, hd2⟩, z2⟩ := I.list hB
  have hl := r.length
  have hl2 := r2.length
  simp only at hc hd hc2 hd2
  subst hc hd hc2 hd2
  have hsz : its.toArray.size + its2.toArray.size ≤ sizeLine := by rw [List.size_toArray, List.size_toArray]; omega
  refine cat_lists ho ho2 hsz ?_
  have ea : its.toArray ++ its2.toArray = (its ++ its2).toArray := by simp
  rw [ea]
  exact ⟨.ref _, _, I.lnew (t' := s.toks) (r.append r2) (by rw [List.length_append]; omega), rfl, q _ I.fresh⟩
theorem od_add : OpD X (binaryOp .Add) opAdd := by
  intro g pins s x y v w u t r ok I hx hy rv rw e
  unfold opAdd at e
  split at e
  · cases e
    obtain rfl := dw_int hx
    obtain rfl := dw_int hy
    exact thn (op_add pins s g.st g.H _ _ u t (fun v' H' => v' = .int _ ∧ H' = g.H) I rv rw ⟨_, _, rfl, rfl, rfl, rfl⟩) fun z s' ⟨v', H', I', r', e1, e2⟩ => by subst e1 e2; exact .same ok I' r' dv_int
  · split at e
    · cases e
      obtain rfl := dw_str hx
      obtain rfl := dw_str hy
      rename_i hz
      exact thn (op_add_str pins s g.st g.H _ _ u t (fun v' H' => v' = .str _ ∧ H' = g.H) I rv rw ⟨_, _, rfl, rfl, by rw [← lim_line]; exact hz, rfl, rfl⟩) fun z s' ⟨v', H', I', r', e1, e2⟩ => by subst e1 e2; exact .same ok I' r' dv_str
    · cases e
  · split at e
    · cases e
      rename_i ds es hz
      obtain ⟨a, vs, rfl, qa, ra⟩ := dw_tup hx
      obtain ⟨b, ws, rfl, qb, rb⟩ := dw_tup hy
      have l1 := ra.length
      have l2 := rb.length
      refine thn (op_catA pins s g.st g.H _ _ u t (fun v' H' => ∃ g' : G, g'.H = H' ∧ g'.st = g.st ∧ g'.env = g.env ∧ Stp g g' ∧ g'.Ok X.K ∧ RVR X.K g.H g' (.d (.tuple (ds ++ es))) v') I rv rw ⟨a, b, vs, ws, rfl, rfl, qa, qb, by rw [← lim_line]; omega, fun h => ?_, fun _ h => ?_, fun _ _ p hp => ?_⟩) fun z s' ⟨v', H', I', r', g', e1, e2, e3, e4, e5, e6⟩ => ⟨v', g', e2, e3, by rw [e1]; exact I', r', e4, e5, e6⟩
      · subst h
        have : ds = [] := by simpa using l1
        subst this
        exact ⟨g, rfl, rfl, rfl, .refl g, ok, hy⟩
      · subst h
        have : es = [] := by simpa using l2
        subst this
        exact ⟨g, rfl, rfl, rfl, .refl g, ok, by rw [List.append_nil]; exact hx⟩
      · obtain ⟨s2, o2, r2⟩ := alloc_tup ok hp (ra.append rb)
        exact ⟨{ g with H := upd g.H p (.tup (vs ++ ws)) }, rfl, rfl, rfl, s2, o2, r2⟩
    · cases e
  · split at e
    · cases e
      rename_i ds es hz
      obtain ⟨a, vs, rfl, qa, ra⟩ := dw_lst hx
      obtain ⟨b, ws, rfl, qb, rb⟩ := dw_lst hy
      have l1 := ra.length
      have l2 := rb.length
      refine thn (op_catR pins s g.st g.H _ _ u t (fun v' H' => ∃ g' : G, g'.H = H' ∧ g'.st = g.st ∧ g'.env = g.env ∧ Stp g g' ∧ g'.Ok X.K ∧ RVR X.K g.H g' (.tmp (.lst (ds ++ es))) v') I rv rw ⟨a, b, vs, ws, rfl, rfl, qa, qb, by rw [← lim_line]; omega, fun p hp => ?_⟩) fun z s' ⟨v', H', I', r', g', e1, e2, e3, e4, e5, e6⟩ => ⟨v', g', e2, e3, by rw [e1]; exact I', r', e4, e5, e6⟩
      obtain ⟨s2, o2, r2⟩ := alloc_lst ok hp (ra.append rb)
      exact ⟨{ g with A := fun b => g.A b ∨ b = p, H := upd g.H p (.lst (vs ++ ws)) }, rfl, rfl, rfl, s2, o2, r2⟩
    · cases e
  · cases e
/-- ints -/
theorem od_int {f : Value → Value → Sem Value} {C : Int → Int → Prop} {k : Int → Int → Int} (h : OpR X f (rI C fun i j => .int (k i j))) {g : G} {pins : List (Addr × Obj)} {s : Shared} {i j : Int} {v w : V} {u t : Value} (ok : g.Ok X.K) (I : Inv X pins g.st g.H s)
    (hx : Dw X.K g.A g.H (.int i) v) (hy : Dw X.K g.A g.H (.int j) w) (rv : RelV v u) (rw : RelV w t) (c : C i j) : wpAny (model X.prog X.w) X.A (f u t) (OpQ X pins g (.d (.int (k i j)))) X.xe s := by
  obtain rfl := dw_int hx
  obtain rfl := dw_int hy
  exact thn (h pins s g.st g.H _ _ u t (fun v' H' => v' = .int _ ∧ H' = g.H) I rv rw ⟨_, _, rfl, rfl, c, rfl, rfl⟩) fun z s' ⟨v', H', I', r', e1, e2⟩ => by subst e1 e2; exact .same ok I' r' dv_int
theorem od_sub : OpD X (binaryOp .Sub) opSub := by
  intro g pins s x y v w u t r ok I hx hy rv rw e
  unfold opSub at e
  split at e
  · cases e
    obtain rfl := dw_int hx
    obtain rfl := dw_int hy
    exact thn (op_sub pins s g.st g.H _ _ u t (fun v' H' => v' = .int _ ∧ H' = g.H) I rv rw ⟨_, _, rfl, rfl, rfl, rfl⟩) fun z s' ⟨v', H', I', r', e1, e2⟩ => by subst e1 e2; exact .same ok I' r' dv_int
  · cases e
theorem od_mul : OpD X (binaryOp .Mult) opMul := by
  intro g pins s x y v w u t r ok I hx hy rv rw e
  unfold opMul at e
  split at e
  · split at e
    · cases e
      rename_i c
      rcases c with c | c
      · exact od_int op_mul ok I hx hy rv rw c
      · exact od_int op_mulW ok I hx hy rv rw c
    · cases e
  · cases e
theorem od_div : OpD X (binaryOp .FloorDiv) opDiv := by
  intro g pins s x y v w u t r ok I hx hy rv rw e
  unfold opDiv at e
  split at e
  · split at e
    · cases e
      rename_i c
      exact od_int op_fdivW ok I hx hy rv rw c
    · split at e
      · cases e
        rename_i c
        exact od_int op_fdivN ok I hx hy rv rw c
      · cases e
  · cases e
theorem od_mod : OpD X (binaryOp .Mod) opMod := by
  intro g pins s x y v w u t r ok I hx hy rv rw e
  unfold opMod at e
  split at e
  · split at e
    · cases e
      rename_i c
      exact od_int op_mod ok I hx hy rv rw c
    · split at e
      · cases e
        rename_i c
        exact od_int op_modN ok I hx hy rv rw c
      · cases e
  · cases e
theorem od_pow : OpD X (binaryOp .Pow) opPow := by
  intro g pins s x y v w u t r ok I hx hy rv rw e
  unfold opPow at e
  split at e
  · split at e
    · cases e
      rename_i c
      exact od_int op_pow ok I hx hy rv rw c
    · cases e
  · cases e
/-! ### comparisons -/
def opEq (neg : Bool) : PyData → PyData → Option RV := fun x y => if SeqAt.shaped x && SeqAt.shaped y then some (.d (.bool (if neg then !PyData.eqv x y else PyData.eqv x y))) else none
theorem od_eq (hu : X.A.units + 65 < cLine) : OpD X (compareOp .Eq) (opEq false) := by
  intro g pins s x y v w u t r ok I hx hy rv rw e
  unfold opEq at e
  split at e
  · cases e
    rename_i c
    rw [Bool.and_eq_true] at c
    obtain ⟨as, r1⟩ := hx.reads I rv
    obtain ⟨bs, r2⟩ := hy.reads I rw
    exact PyProof.Rows.eq_dataH r1 r2 c.1 c.2 (by omega) (opq_bl ok I)
  · cases e
theorem od_ne (hu : X.A.units + 65 < cLine) : OpD X (compareOp .NotEq) (opEq true) := by
  intro g pins s x y v w u t r ok I hx hy rv rw e
  unfold opEq at e
  split at e
  · cases e
    rename_i c
    rw [Bool.and_eq_true] at c
    obtain ⟨as, r1⟩ := hx.reads I rv
    obtain ⟨bs, r2⟩ := hy.reads I rw
    exact PyProof.Rows.ne_dataH r1 r2 c.1 c.2 (by omega) (opq_bl ok I)
  · cases e
def opIn (neg : Bool) : PyData → PyData → Option RV
  | x, .list ys => if SeqAt.shaped x && SeqAt.shaped (.list ys) then some (.d (.bool (if neg then !ys.any (fun y => PyData.eqv y x) else ys.any fun y => PyData.eqv y x))) else none
  | x, .tuple ys => if SeqAt.shaped x && SeqAt.shaped (.tuple ys) then some (.d (.bool (if neg then !ys.any (fun y => PyData.eqv y x) else ys.any fun y => PyData.eqv y x))) else none
  | _, _ => none
theorem shaped_in {ys : List PyData} {x : PyData} {A : Around} (h : SeqAt.shaped x = true) (hu : A.units + 65 < cLine) : A.units + 1 + min (PyData.depthAll ys) x.depth < cLine := by
  have h1 := SeqAt.depth_of_shaped h
  have h2 : min (PyData.depthAll ys) x.depth ≤ x.depth := Nat.min_le_right _ _
  omega
theorem canLay_lst {ys : List PyData} (h : SeqAt.shaped (.list ys) = true) : PyData.canLayAll0 ys = true := by
  have := SeqAt.canLay_of_shaped h
  simpa [PyData.canLay0] using this
theorem canLay_tup {ys : List PyData} (h : SeqAt.shaped (.tuple ys) = true) : PyData.canLayAll0 ys = true := by
  have := SeqAt.canLay_of_shaped h
  simpa [PyData.canLay0] using this
theorem od_in (hu : X.A.units + 65 < cLine) : OpD X (compareOp .In) (opIn false) := by
  intro g pins s x y v w u t r ok I hx hy rv rw e
  unfold opIn at e
  obtain ⟨as, r1⟩ := hx.reads I rv
  obtain ⟨bs, r2⟩ := hy.reads I rw
  split at e
  · split at e
    · cases e
      rename_i c
      rw [Bool.and_eq_true] at c
      exact SeqAt.in_list_reads r2 r1 (canLay_lst c.2) (SeqAt.canLay_of_shaped c.1) (shaped_in c.1 hu) (opq_bl ok I)
    · cases e
  · split at e
    · cases e
      rename_i c
      rw [Bool.and_eq_true] at c
      exact SeqAt.in_tuple_reads r2 r1 (canLay_tup c.2) (SeqAt.canLay_of_shaped c.1) (shaped_in c.1 hu) (opq_bl ok I)
    · cases e
  · cases e
theorem od_notIn (hu : X.A.units + 65 < cLine) : OpD X (compareOp .NotIn) (opIn true) := by
  intro g pins s x y v w u t r ok I hx hy rv rw e
  unfold opIn at e
  obtain ⟨as, r1⟩ := hx.reads I rv
  obtain ⟨bs, r2⟩ := hy.reads I rw
  split at e
  · split at e
    · cases e
      rename_i c
      rw [Bool.and_eq_true] at c
      exact SeqAt.notIn_list_reads r2 r1 (canLay_lst c.2) (SeqAt.canLay_of_shaped c.1) (shaped_in c.1 hu) (opq_bl ok I)
    · cases e
  · split at e
    · cases e
      rename_i c
      rw [Bool.and_eq_true] at c
      exact SeqAt.notIn_tuple_reads r2 r1 (canLay_tup c.2) (SeqAt.canLay_of_shaped c.1) (shaped_in c.1 hu) (opq_bl ok I)
    · cases e
  · cases e
/-- ints -/
def opInt (k : Int → Int → Bool) : PyData → PyData → Option RV
  | .int i, .int j => some (.d (.bool (k i j)))
  | _, _ => none
theorem od_cmpI {f : Value → Value → Sem Value} {k : Int → Int → Bool} (h : OpR X f (rI0 fun i j => .bl (k i j))) : OpD X f (opInt k) := by
  intro g pins s x y v w u t r ok I hx hy rv rw e
  unfold opInt at e
  split at e
  · cases e
    obtain rfl := dw_int hx
    obtain rfl := dw_int hy
    exact thn (h pins s g.st g.H _ _ u t (fun v' H' => v' = .bl _ ∧ H' = g.H) I rv rw ⟨_, _, rfl, rfl, rfl, rfl⟩) fun z s' ⟨v', H', I', r', e1, e2⟩ => by subst e1 e2; exact .same ok I' r' dv_bl
  · cases e
theorem od_lt : OpD X (compareOp .Lt) (opInt fun i j => decide (i < j)) := od_cmpI op_lt
theorem od_le : OpD X (compareOp .LtE) (opInt fun i j => decide (i ≤ j)) := od_cmpI op_le
theorem od_gt : OpD X (compareOp .Gt) (opInt fun i j => decide (j < i)) := od_cmpI op_gt
theorem od_ge : OpD X (compareOp .GtE) (opInt fun i j => decide (j ≤ i)) := od_cmpI op_ge
def isNone : PyData → Bool
  | .none => true
  | _ => false
def opIs (neg : Bool) : PyData → PyData → Option RV
  | x, .none => some (.d (.bool (if neg then !isNone x else isNone x)))
  | .bool a, .bool b => some (.d (.bool (if neg then !(a == b) else a == b)))
  | _, _ => none
theorem dw_isNone {K : PySem.W.Frag} {A : AS} {H : Hp} {x : PyData} {v : V} (h : Dw K A H x v) : decide (v = .non) = isNone x := by
  cases x with
  | list ds => obtain ⟨a, vs, rfl, _⟩ := h; rfl
  | tuple ds => obtain ⟨a, vs, rfl, _⟩ := dw_tup h; rfl
  | dict ds =>
    have h : Dv K A H (.dict ds) v := h
    simp only [Dv] at h
    obtain ⟨_, a, rfl, _⟩ := h; rfl
  | none => rw [dw_scal (x := .none) rfl h]; rfl
  | bool b => rw [dw_scal (x := .bool b) rfl h]; rfl
  | int i => rw [dw_scal (x := .int i) rfl h]; rfl
  | str z => rw [dw_scal (x := .str z) rfl h]; rfl
end
end BH

set_option maxRecDepth 100000
set_option maxHeartbeats 2000000
namespace BH
open PySem PySem.Spec PyProof.Rows L2

section
variable {X : Cx}
theorem od_is : OpD X (compareOp .Is) (opIs false) := by
  intro g pins s x y v w u t r ok I hx hy rv rw e
  unfold opIs at e
  split at e
  · cases e
    obtain rfl := dw_scal (x := .none) rfl hy
    refine thn (op_isN pins s g.st g.H _ _ u t (fun v' H' => v' = .bl (isNone x) ∧ H' = g.H) I rv rw ⟨rfl, by rw [dw_isNone hx], rfl⟩) fun z s' ⟨v', H', I', r', e1, e2⟩ => ?_
    subst e1 e2
    cases r'
    exact opq_bl ok I'
  · cases e
    rename_i a b
    obtain rfl := dw_scal (x := .bool a) rfl hx
    obtain rfl := dw_scal (x := .bool b) rfl hy
    refine thn (op_isBl pins s g.st g.H _ _ u t (fun v' H' => v' = .bl (a == b) ∧ H' = g.H) I rv rw ⟨a, b, rfl, rfl, by rw [Bool.beq_eq_decide_eq], rfl⟩) fun z s' ⟨v', H', I', r', e1, e2⟩ => ?_
    subst e1 e2
    cases r'
    exact opq_bl ok I'
  · cases e
theorem od_isNot : OpD X (compareOp .IsNot) (opIs true) := by
  intro g pins s x y v w u t r ok I hx hy rv rw e
  unfold opIs at e
  split at e
  · cases e
    obtain rfl := dw_scal (x := .none) rfl hy
    refine thn (op_notN pins s g.st g.H _ _ u t (fun v' H' => v' = .bl (!isNone x) ∧ H' = g.H) I rv rw ⟨rfl, by rw [dw_isNone hx], rfl⟩) fun z s' ⟨v', H', I', r', e1, e2⟩ => ?_
    subst e1 e2
    cases r'
    exact opq_bl ok I'
  · cases e
    rename_i a b
    obtain rfl := dw_scal (x := .bool a) rfl hx
    obtain rfl := dw_scal (x := .bool b) rfl hy
    refine thn (op_notBl pins s g.st g.H _ _ u t (fun v' H' => v' = .bl (!(a == b)) ∧ H' = g.H) I rv rw ⟨a, b, rfl, rfl, by rw [Bool.beq_eq_decide_eq], rfl⟩) fun z s' ⟨v', H', I', r', e1, e2⟩ => ?_
    subst e1 e2
    cases r'
    exact opq_bl ok I'
  · cases e
end

/-! ### truth -/
def truD : PyData → Option Bool
  | .none => some false
  | .bool b => some b
  | .int i => some (i != 0)
  | .str x => if x.length ≤ lim then some ((x.length : Int) != 0) else none
  | .list xs => some !xs.isEmpty
  | .tuple xs => some !xs.isEmpty
  | .dict kvs => some !kvs.isEmpty
theorem truV_of {X : Cx} {A : AS} {H : Hp} {x : PyData} {v : V} {k : Bool} (h : Dw X.K A H x v) (e : truD x = some k) : TruV X.K v H k := by
  cases x with
  | none => cases e; rw [dw_scal (x := .none) rfl h]; rfl
  | bool b => rw [dw_scal (x := .bool b) rfl h]; exact (Option.some.inj e).symm
  | int i => rw [dw_scal (x := .int i) rfl h]; exact (Option.some.inj e).symm
  | str z =>
    rw [dw_scal (x := .str z) rfl h]
    have e : (if z.length ≤ lim then some ((z.length : Int) != 0) else none) = some k := e
    split at e
    · rename_i c; exact ⟨by rw [← lim_line]; exact c, (Option.some.inj e).symm⟩
    · cases e
  | list ds =>
    cases e
    obtain ⟨a, vs, rfl, q, r⟩ := h
    refine .inl ⟨vs, q, ?_⟩
    have := r.length
    cases ds <;> cases vs <;> simp_all
  | tuple ds =>
    cases e
    obtain ⟨a, vs, rfl, q, r⟩ := dw_tup h
    refine .inr (.inl ⟨vs, q, ?_⟩)
    have := r.length
    cases ds <;> cases vs <;> simp_all
  | dict ds =>
    have h : Dv X.K A H (.dict ds) v := h
    simp only [Dv] at h
    obtain ⟨rfl, a, rfl, n, q⟩ := h
    cases e
    exact .inr (.inr ⟨[], q, rfl⟩)
theorem truthy_dw {X : Cx} {pins : List (Addr × Obj)} {g : G} {s : Shared} {x : PyData} {v : V} {u : Value} {k : Bool} (I : Inv X pins g.st g.H s) (h : Dw X.K g.A g.H x v) (r : RelV v u) (e : truD x = some k) {Q : Bool → Shared → Prop}
    (hQ : ∀ s', Inv X pins g.st g.H s' → Q k s') : wpAny (model X.prog X.w) X.A (truthy u) Q X.xe s := by
  refine thn (tru_ok pins s g.st g.H v u (fun b H' => b = k ∧ H' = g.H) I r ⟨k, truV_of h e, rfl, rfl⟩) ?_
  rintro b s' ⟨H', I', e1, e2⟩
  subst e1 e2
  exact hQ s' I'

/-! ### tests -/
abbrev TF := SE → Res (Bool × SE)
def tTt (X : Cx) (W : WX) (f : TF) : TT := fun σ H Q => ∃ g : G, g.st = σ ∧ g.H = H ∧ g.Ok X.K ∧ Out X W g (f g.env) fun g' b => Q b g'.H
structure FT (X : Cx) (e : Expr) (f : TF) : Prop where
  pt : ∀ W, Takes X W → PT X e (tTt X W f)
structure FW (X : Cx) (e : Expr) (f : TF) : Prop where
  pw : ∀ W, Takes X W → PW X e (tTt X W f)
theorem FW.pt {X : Cx} {e : Expr} {f : TF} (h : FW X e f) : FT X e f := ⟨fun W tk => (h.pw W tk).pt⟩
theorem FT.go {X : Cx} {e : Expr} {f : TF} (h : FT X e f) {W : WX} (tk : Takes X W) {g : G} (ok : g.Ok X.K) {pins : List (Addr × Obj)} {s : Shared} (I : Inv X pins g.st g.H s) {P : G → Bool → Prop} (o : Out X W g (f g.env) P)
    {Q : Bool → Shared → Prop} (hQ : ∀ b s' g', g'.st = g.st → Inv X pins g'.st g'.H s' → g'.Ok X.K → Stp g g' → P g' b → Q b s') :
    wpAny (model X.prog X.w) X.A (isTrue e X.env (eval e X.env)) Q X.xe s := by
  refine thn ((h.pt W tk).run pins s g.st g.H (fun b H' => ∃ g', g'.H = H' ∧ g'.st = g.st ∧ g'.Ok X.K ∧ Stp g g' ∧ P g' b) I ⟨g, rfl, rfl, ok, o.imp fun g' x st e o p => ⟨g', rfl, e, o, st, p⟩⟩) ?_
  rintro b s' ⟨H', I', g', rfl, e, o', st, p⟩
  exact hQ b s' g' e (e ▸ I') o' st p
theorem FW.go {X : Cx} {e : Expr} {f : TF} (h : FW X e f) {W : WX} (tk : Takes X W) {g : G} (ok : g.Ok X.K) {pins : List (Addr × Obj)} {s : Shared} (I : Inv X pins g.st g.H s) {P : G → Bool → Prop} (o : Out X W g (f g.env) P) (whole : Sem Value)
    {Q : Bool → Shared → Prop} (hQ : ∀ b s' g', g'.st = g.st → Inv X pins g'.st g'.H s' → g'.Ok X.K → Stp g g' → P g' b → Q b s') :
    wpAny (model X.prog X.w) X.A (isTrue e X.env whole) Q X.xe s := by
  refine thn ((h.pw W tk).run whole pins s g.st g.H (fun b H' => ∃ g', g'.H = H' ∧ g'.st = g.st ∧ g'.Ok X.K ∧ Stp g g' ∧ P g' b) I ⟨g, rfl, rfl, ok, o.imp fun g' x st e o p => ⟨g', rfl, e, o, st, p⟩⟩) ?_
  rintro b s' ⟨H', I', g', rfl, e, o', st, p⟩
  exact hQ b s' g' e (e ▸ I') o' st p
theorem ft_mk {X : Cx} {e : Expr} {f : TF} (h : ∀ W, Takes X W → ∀ (g : G) (pins : List (Addr × Obj)) (s : Shared) (P : G → Bool → Prop), g.Ok X.K → Inv X pins g.st g.H s → Out X W g (f g.env) P →
    wpAny (model X.prog X.w) X.A (isTrue e X.env (eval e X.env)) (fun b s' => ∃ g', Inv X pins g.st g'.H s' ∧ P g' b) X.xe s) : FT X e f := by
  refine ⟨fun W tk => ⟨fun pins s σ H Q I hq => ?_⟩⟩
  obtain ⟨g, rfl, rfl, ok, o⟩ := hq
  exact thn (h W tk g pins s _ ok I o) fun b s' ⟨g', I', p⟩ => ⟨g'.H, I', p⟩
theorem fw_mk {X : Cx} {e : Expr} {f : TF} (h : ∀ W, Takes X W → ∀ (whole : Sem Value) (g : G) (pins : List (Addr × Obj)) (s : Shared) (P : G → Bool → Prop), g.Ok X.K → Inv X pins g.st g.H s → Out X W g (f g.env) P →
    wpAny (model X.prog X.w) X.A (isTrue e X.env whole) (fun b s' => ∃ g', Inv X pins g.st g'.H s' ∧ P g' b) X.xe s) : FW X e f := by
  refine ⟨fun W tk => ⟨fun whole pins s σ H Q I hq => ?_⟩⟩
  obtain ⟨g, rfl, rfl, ok, o⟩ := hq
  exact thn (h W tk whole g pins s _ ok I o) fun b s' ⟨g', I', p⟩ => ⟨g'.H, I', p⟩
def truR (rv : RV) (env : SE) : Res (Bool × SE) := match rv.view env with
  | some x => match truD x with
    | some b => .ok (b, env)
    | none => .fail
  | none => .fail
def fTru (f : EF) : TF := fun env => (f env).bind fun p => truR p.1 p.2
/-- the end of a test: the value's truth -/
theorem tru_end {X : Cx} {W : WX} {g g1 : G} {pins : List (Addr × Obj)} {s : Shared} {P : G → Bool → Prop} {rv : RV} {v : V} {u : Value} (I : Inv X pins g1.st g1.H s) (r : RelV v u) (e1 : g1.st = g.st) (st : Stp g g1) (ok1 : g1.Ok X.K) (rr : RVR X.K g.H g1 rv v)
    (p : Out X W g (truR rv g1.env) P) :
    wpAny (model X.prog X.w) X.A (truthy u) (fun b s' => ∃ g', Inv X pins g.st g'.H s' ∧ P g' b) X.xe s := by
  unfold truR at p
  cases hx : rv.view g1.env with
  | none => rw [hx] at p; exact p.elim
  | some x =>
    rw [hx] at p
    simp only at p
    cases hb : truD x with
    | none => rw [hb] at p; exact p.elim
    | some b =>
      rw [hb] at p
      exact truthy_dw I (rr.dw ok1 hx) r hb fun s' I' => ⟨g1, by rw [← e1]; exact I', p g1 rfl e1 st ok1⟩
theorem ft_val {X : Cx} {e : Expr} {f : EF} (h : FE X e f) (he : ∀ whole, isTrue e X.env whole = (do let v ← whole; standAt e.pos; holding [v] (truthy v)) := by intro _; rfl) : FT X e (fTru f) :=
  ft_mk fun W tk g pins s P ok I o => isTrue_plain (h.go tk ok I o.bind0 fun u s' g1 rv v e1 I1 r ok1 st rr p => tru_end I1 r e1 st ok1 rr p) (he _)
theorem ft_cmp {X : Cx} {a b : Expr} {op : CmpOp} {fa fb : EF} {o : PyData → PyData → Option RV} {pos : Pos} (ho : OpD X (compareOp op) o) (ha : FE X a fa) (hb : FE X b fb) (hm : behindInMarks op b = false := by rfl) : FT X (.Compare a [op] [b] pos) (fTru (fBin o fa fb)) :=
  ft_mk fun W tk g pins s P ok I h => by
    refine wpAny_isTrue_Compare1 ?_ hm
    have h2 := h.bind0
    refine two tk ha hb ho ok I (P := fun g' rv => Stp g g' ∧ g'.st = g.st ∧ g'.Ok X.K ∧ Out X W g (truR rv g'.env) P) (h2.imp fun g' x st e o p => ⟨st, e, o, p⟩) fun z s' g' rv v I' r rr ⟨st, e1, ok1, p⟩ => ?_
    exact tru_end (by rw [e1]; exact I') r e1 st ok1 rr p
/-! ### and, or, not -/
def fAnd (f t : TF) : TF := fun env => (f env).bind fun p => if p.1 = true then t p.2 else .ok (false, p.2)
def fOr (f t : TF) : TF := fun env => (f env).bind fun p => if p.1 = true then .ok (true, p.2) else t p.2
def fNot (f : TF) : TF := fun env => (f env).bind fun p => .ok (!p.1, p.2)
section
variable {X : Cx} {a b : Expr} {rest : List Expr} {fa fb : TF} {pos : Pos}
theorem fw_and1 (ha : FT X a fa) : FW X (.BoolOp .And [a] pos) fa := ⟨fun W tk => pw_and1 (ha.pt W tk)⟩
theorem fw_or1 (ha : FT X a fa) : FW X (.BoolOp .Or [a] pos) fa := ⟨fun W tk => pw_or1 (ha.pt W tk)⟩
theorem fw_and (ha : FT X a fa) (hb : FW X (.BoolOp .And (b :: rest) pos) fb) : FW X (.BoolOp .And (a :: b :: rest) pos) (fAnd fa fb) :=
  fw_mk fun W tk whole g pins s P ok I o => by
    refine isTrue_and (ha.go tk ok I o.bind0 fun c s1 g1 e1 I1 ok1 st p => ?_)
    cases c with
    | true => exact hb.go tk ok1 I1 ((show Out X W g (fb g1.env) P from p).rebase ok st e1) whole fun b s2 g2 e2 I2 ok2 st2 p2 => ⟨g2, by rw [← e1, ← e2]; exact I2, p2⟩
    | false => exact ⟨g1, by rw [← e1]; exact I1, (show Out X W g (.ok (false, g1.env)) P from p) g1 rfl e1 st ok1⟩
theorem fw_or (ha : FT X a fa) (hb : FW X (.BoolOp .Or (b :: rest) pos) fb) : FW X (.BoolOp .Or (a :: b :: rest) pos) (fOr fa fb) :=
  fw_mk fun W tk whole g pins s P ok I o => by
    refine isTrue_or (ha.go tk ok I o.bind0 fun c s1 g1 e1 I1 ok1 st p => ?_)
    cases c with
    | false => exact hb.go tk ok1 I1 ((show Out X W g (fb g1.env) P from p).rebase ok st e1) whole fun b s2 g2 e2 I2 ok2 st2 p2 => ⟨g2, by rw [← e1, ← e2]; exact I2, p2⟩
    | true => exact ⟨g1, by rw [← e1]; exact I1, (show Out X W g (.ok (true, g1.env)) P from p) g1 rfl e1 st ok1⟩
theorem ft_not (ha : FT X a fa) : FT X (.UnaryOp .Not a pos) (fNot fa) :=
  ft_mk fun W tk g pins s P ok I o => isTrue_not (ha.go tk ok I o.bind0 fun c s1 g1 e1 I1 ok1 st p => ⟨g1, by rw [← e1]; exact I1, p g1 rfl e1 st ok1⟩)
end
/-- as values -/
def fAndV (f t : EF) : EF := fun env => (f env).bind fun p => match p.1.view p.2 with
  | some x => match truD x with
    | some true => t p.2
    | some false => .ok (p.1, p.2)
    | none => .fail
  | none => .fail
def fOrV (f t : EF) : EF := fun env => (f env).bind fun p => match p.1.view p.2 with
  | some x => match truD x with
    | some true => .ok (p.1, p.2)
    | some false => t p.2
    | none => .fail
  | none => .fail
def fNotV (f : TF) : EF := fun env => (f env).bind fun p => .ok (.d (.bool !p.1), p.2)
def fIf (c : TF) (a b : EF) : EF := fun env => (c env).bind fun p => if p.1 = true then a p.2 else b p.2
section
variable {X : Cx} {a b c : Expr} {rest : List Expr} {fa fb : EF} {pos : Pos}
theorem fe_one {op} (ha : FE X a fa) : FE X (.BoolOp op [a] pos) fa := ⟨fun W tk => pe_one (ha.pe W tk)⟩
theorem fe_and (ha : FE X a fa) (hb : FE X (.BoolOp .And (b :: rest) pos) fb) : FE X (.BoolOp .And (a :: b :: rest) pos) (fAndV fa fb) :=
  fe_mk fun W tk g pins s P ok I o => by
    refine BoolOp_and (ha.go tk ok I o.bind0 fun u s1 g1 rv v e1 I1 r ok1 st rr p => ?_)
    cases hx : rv.view g1.env with
    | none => rw [hx] at p; exact p.elim
    | some x =>
      rw [hx] at p
      simp only at p
      cases hk : truD x with
      | none => rw [hk] at p; exact p.elim
      | some k =>
        rw [hk] at p
        refine truthy_dw I1 (rr.dw ok1 hx) r hk fun s2 I2 => ?_
        cases k with
        | true => exact hb.go tk ok1 I2 ((show Out X W g (fb g1.env) P from p).rebase ok st e1) fun u2 s3 g2 rv2 v2 e2 I3 r2 ok2 st2 rr2 p2 => ⟨v2, g2, rv2, by rw [← e1, ← e2]; exact I3, r2, rr2.old st.ext.dom, p2⟩
        | false => exact ⟨v, g1, rv, by rw [← e1]; exact I2, r, rr, (show Out X W g (.ok (rv, g1.env)) P from p) g1 rfl e1 st ok1⟩
theorem fe_or (ha : FE X a fa) (hb : FE X (.BoolOp .Or (b :: rest) pos) fb) : FE X (.BoolOp .Or (a :: b :: rest) pos) (fOrV fa fb) :=
  fe_mk fun W tk g pins s P ok I o => by
    refine BoolOp_or (ha.go tk ok I o.bind0 fun u s1 g1 rv v e1 I1 r ok1 st rr p => ?_)
    cases hx : rv.view g1.env with
    | none => rw [hx] at p; exact p.elim
    | some x =>
      rw [hx] at p
      simp only at p
      cases hk : truD x with
      | none => rw [hk] at p; exact p.elim
      | some k =>
        rw [hk] at p
        refine truthy_dw I1 (rr.dw ok1 hx) r hk fun s2 I2 => ?_
        cases k with
        | false => exact hb.go tk ok1 I2 ((show Out X W g (fb g1.env) P from p).rebase ok st e1) fun u2 s3 g2 rv2 v2 e2 I3 r2 ok2 st2 rr2 p2 => ⟨v2, g2, rv2, by rw [← e1, ← e2]; exact I3, r2, rr2.old st.ext.dom, p2⟩
        | true => exact ⟨v, g1, rv, by rw [← e1]; exact I2, r, rr, (show Out X W g (.ok (rv, g1.env)) P from p) g1 rfl e1 st ok1⟩
theorem fe_ifExp {fc : TF} (hc : FT X c fc) (ha : FE X a fa) (hb : FE X b fb) : FE X (.IfExp c a b pos) (fIf fc fa fb) :=
  fe_mk fun W tk g pins s P ok I o => by
    refine wpAny_IfExp (hc.go tk ok I o.bind0 fun k s1 g1 e1 I1 ok1 st p => ?_)
    cases k with
    | true => exact ha.go tk ok1 I1 ((show Out X W g (fa g1.env) P from p).rebase ok st e1) fun u2 s3 g2 rv2 v2 e2 I3 r2 ok2 st2 rr2 p2 => ⟨v2, g2, rv2, by rw [← e1, ← e2]; exact I3, r2, rr2.old st.ext.dom, p2⟩
    | false => exact hb.go tk ok1 I1 ((show Out X W g (fb g1.env) P from p).rebase ok st e1) fun u2 s3 g2 rv2 v2 e2 I3 r2 ok2 st2 rr2 p2 => ⟨v2, g2, rv2, by rw [← e1, ← e2]; exact I3, r2, rr2.old st.ext.dom, p2⟩
/-- not, as a value -/
theorem fe_not (ha : FE X a fa) : FE X (.UnaryOp .Not a pos) (fNotV (fTru fa)) :=
  fe_mk fun W tk g pins s P ok I o => by
    have o2 : Out X W g (fTru fa g.env) fun g' b => P g' (.d (.bool !b)) := by
      have := o.bind0
      refine this.imp fun g' x st e o p => p g' rfl e st o
    refine UnaryOp_ (ha.go tk ok I o2.bind0 fun u s1 g1 rv v e1 I1 r ok1 st rr p => ?_)
    refine not_of (thn (tru_end (P := fun g' b => P g' (.d (.bool !b))) I1 r e1 st ok1 rr p) fun b s2 ⟨g', I2, p2⟩ => ⟨.bl !b, g', .d (.bool !b), I2, rfl, by show Dv _ _ _ _ _; simp only [Dv], p2⟩)
end

/-! ### a <= b <= c of ints -/
def fChain (k k' : Int → Int → Bool) (fa fb fc : EF) : EF := fun env => (fa env).bind fun p => (fb p.2).bind fun q =>
  match p.1.view q.2, q.1.view q.2 with
  | some (.int i), some (.int j) => if k i j = true then (fc q.2).bind fun r => match r.1.view r.2 with
      | some (.int l) => .ok (.d (.bool (k' j l)), r.2)
      | _ => .fail
    else .ok (.d (.bool false), q.2)
  | _, _ => .fail
/-- a row of ints, for the chain's rules -/
def tIs (X : Cx) (W : WX) (f : EF) : TE := tE X W f
theorem fe_chain {X : Cx} {a b c : Expr} {op op' : CmpOp} {k k' : Int → Int → Bool} {fa fb fc : EF} {pos : Pos} (ho : OpR X (compareOp op) (rI0 fun i j => .bl (k i j))) (ho' : OpR X (compareOp op') (rI0 fun i j => .bl (k' i j)))
    (hpe : ∀ {ta tb tc : TE}, PE X a ta → PE X b tb → PE X c tc → PE X (.Compare a [op, op'] [b, c] pos) (tChain (rI0 fun i j => .bl (k i j)) (rI0 fun i j => .bl (k' i j)) ta tb tc))
    (ha : FE X a fa) (hb : FE X b fb) (hc : FE X c fc) : FE X (.Compare a [op, op'] [b, c] pos) (fChain k k' fa fb fc) := by
  refine ⟨fun W tk => ⟨fun pins s σ H Q I hq => ?_⟩⟩
  obtain ⟨g, rfl, rfl, ok, o⟩ := hq
  refine (hpe (ha.pe W tk) (hb.pe W tk) (hc.pe W tk)).run pins s g.st g.H Q I ⟨g, rfl, rfl, ok, o.bind0.imp fun g1 r1 st1 e1 ok1 p1 v1 rr1 => ?_⟩
  refine ⟨g1, e1, rfl, ok1, (p1.rebase ok st1 e1).bind0.imp fun g2 r2 st2 e2 ok2 p2 v2 rr2 => ?_⟩
  have rr1' := rr1.step ok1 st2 e2
  split at p2
  · rename_i i j h1 h2
    obtain rfl := dw_int (rr1'.dw ok2 h1)
    obtain rfl := dw_int (rr2.dw ok2 h2)
    refine ⟨i, j, rfl, rfl, k i j, rfl, ?_⟩
    by_cases hk : k i j = true
    · rw [if_pos hk] at p2 ⊢
      have e12 := e2.trans e1
      refine ⟨g2, e12, rfl, ok2, ((p2.rebase ok1 st2 e2).bind0).imp fun g3 r3 st3 e3 ok3 p3 v3 rr3 => ?_⟩
      split at p3
      · rename_i l h3
        obtain rfl := dw_int (rr3.dw ok3 h3)
        exact ⟨j, l, rfl, rfl, p3 g3 rfl e3 st3 ok3 _ (by show Dv _ _ _ _ _; simp only [Dv])⟩
      · exact p3.elim
    · rw [if_neg hk] at p2 ⊢
      exact p2 g2 rfl e2 st2 ok2 _ (by show Dv _ _ _ _ _; simp only [Dv])
  · exact p2.elim
end BH

set_option maxRecDepth 100000
set_option maxHeartbeats 2000000
namespace BH
open PySem PySem.Spec PyProof.Rows L2

/-! ### two operands by a rule of HandS -/
def R2D (X : Cx) (r : R2) (op : PyData → PyData → Option RV) : Prop :=
  ∀ (g : G) (x y : PyData) (v w : V) (res : RV) (Q : VK), g.Ok X.K → Dw X.K g.A g.H x v → Dw X.K g.A g.H y w → op x y = some res →
    (∀ v' (g' : G), g'.st = g.st → g'.env = g.env → Stp g g' → g'.Ok X.K → RVR X.K g.H g' res v' → Q v' g'.H) → r v w g.H Q
theorem fe_of2 {X : Cx} {e a b : Expr} {r : R2} {op : PyData → PyData → Option RV} {fa fb : EF} (hpe : ∀ {ta tb : TE}, PE X a ta → PE X b tb → PE X e (tOp r ta tb)) (ho : R2D X r op) (ha : FE X a fa) (hb : FE X b fb) : FE X e (fBin op fa fb) := by
  refine ⟨fun W tk => ⟨fun pins s σ H Q I hq => ?_⟩⟩
  obtain ⟨g, rfl, rfl, ok, o⟩ := hq
  refine (hpe (ha.pe W tk) (hb.pe W tk)).run pins s g.st g.H Q I ⟨g, rfl, rfl, ok, o.bind0.imp fun g1 r1 st1 e1 ok1 p1 v1 rr1 => ?_⟩
  refine ⟨g1, e1, rfl, ok1, (p1.rebase ok st1 e1).bind0.imp fun g2 r2 st2 e2 ok2 p2 v2 rr2 => ?_⟩
  have rr1' := rr1.step ok1 st2 e2
  split at p2
  · rename_i x y h1 h2
    split at p2
    · rename_i res hr
      refine ho g2 x y v1 v2 res Q ok2 (rr1'.dw ok2 h1) (rr2.dw ok2 h2) hr fun v' g' e3 e4 st3 ok3 rr3 => ?_
      exact p2 g' e4 (e3.trans e2) (st2.trans ok1 st3) ok3 v' (rr3.old fun a h => st2.ext.dom a (st1.ext.dom a h))
    · exact p2.elim
  · exact p2.elim

/-! ### x[i] -/
def opIx : PyData → PyData → Option RV
  | .list xs, .int i => (atI xs i).map .d
  | .tuple xs, .int i => (atI xs i).map .d
  | .str z, .int i => if z.length ≤ lim then (atI z.cps.toList i).map fun c => .d (.str ⟨#[c]⟩) else none
  | _, _ => none
theorem atI_dvs {K : PySem.W.Frag} {A : AS} {H : Hp} {xs : List PyData} {vs : List V} {i : Int} {x : PyData} (h : Dvs K A H xs vs) (e : atI xs i = some x) : ∃ v, atI vs i = some v ∧ Dv K A H x v := by
  unfold atI at e ⊢
  rw [← h.length]
  cases hj : ixN xs.length i with
  | none => rw [hj] at e; cases e
  | some j =>
    rw [hj] at e
    exact h.getD e
theorem rd_ix {X : Cx} : R2D X (rIx X.K) opIx := by
  intro g x y v w res Q ok hx hy e hQ
  unfold opIx at e
  split at e
  · obtain ⟨a, vs, rfl, q, r⟩ := dw_lst hx
    obtain rfl := dw_int hy
    cases hi : atI _ _ with
    | none => rw [hi] at e; cases e
    | some z =>
      rw [hi] at e; cases e
      obtain ⟨v', h1, h2⟩ := atI_dvs r hi
      exact .inl ⟨a, vs, _, v', rfl, rfl, q, h1, hQ v' g rfl rfl (.refl g) ok h2⟩
  · obtain ⟨a, vs, rfl, q, r⟩ := dw_tup hx
    obtain rfl := dw_int hy
    cases hi : atI _ _ with
    | none => rw [hi] at e; cases e
    | some z =>
      rw [hi] at e; cases e
      obtain ⟨v', h1, h2⟩ := atI_dvs r hi
      exact .inr (.inl ⟨a, vs, _, v', rfl, rfl, q, h1, hQ v' g rfl rfl (.refl g) ok h2⟩)
  · split at e
    · rename_i hz
      obtain rfl := dw_str hx
      obtain rfl := dw_int hy
      cases hi : atI _ _ with
      | none => rw [hi] at e; cases e
      | some z =>
        rw [hi] at e; cases e
        exact .inr (.inr ⟨_, _, z, rfl, rfl, by rw [← lim_line]; exact hz, hi, hQ _ g rfl rfl (.refl g) ok (by show Dv _ _ _ _ _; simp only [Dv])⟩)
    · cases e
  · cases e
theorem fe_ix {X : Cx} {a b : Expr} {fa fb : EF} {pos : Pos} (ha : FE X a fa) (hb : FE X b fb) (hs : PlainIx b := by exact fun _ _ => rfl) : FE X (.Subscript a b pos) (fBin opIx fa fb) :=
  fe_of2 (r := rIx X.K) (fun h1 h2 => pe_ix ix_seq h1 h2 hs) rd_ix ha hb

/-! ### x[lo:hi] -/
def cutD {α : Type} (xs : List α) (lo hi : Option Int) : List α := (xs.drop (HT.sIx xs.length 0 lo)).take (HT.sIx xs.length xs.length hi - HT.sIx xs.length 0 lo)
theorem cut_length {α : Type} (xs : List α) (lo hi : Option Int) : (cutD xs lo hi).length ≤ xs.length := by
  unfold cutD
  rw [List.length_take, List.length_drop]; omega
theorem cut_dvs {K : PySem.W.Frag} {A : AS} {H : Hp} {xs : List PyData} {vs : List V} (h : Dvs K A H xs vs) (lo hi : Option Int) : Dvs K A H (cutD xs lo hi) (cutV vs lo hi) := by
  unfold cutD cutV
  rw [← h.length]
  exact (h.drop _).take _
theorem cut_whole {α : Type} {xs : List α} {lo hi : Option Int} (h : HT.sIx xs.length 0 lo = 0 ∧ HT.sIx xs.length xs.length hi = xs.length) : cutD xs lo hi = xs := by
  unfold cutD
  rw [h.1, h.2]; simp
def opSl : PyData → Option Int → Option Int → Option RV
  | .list xs, lo, hi => some (.tmp (.lst (cutD xs lo hi)))
  | .tuple xs, lo, hi => some (.d (.tuple (cutD xs lo hi)))
  | .str z, lo, hi => if z.length ≤ lim then some (.d (.str (cutS z lo hi))) else none
  | _, _, _ => none
abbrev OF := SE → Res (Option Int × SE)
def tOf (X : Cx) (W : WX) (f : OF) : TO := fun σ H Q => ∃ g : G, g.st = σ ∧ g.H = H ∧ g.Ok X.K ∧ Out X W g (f g.env) fun g' o => Q o g'.H
structure FO (X : Cx) (e : Option Expr) (f : OF) : Prop where
  po : ∀ W, Takes X W → PO X e (tOf X W f)
def fNoPart : OF := fun env => .ok (none, env)
def fPart (f : EF) : OF := fun env => (f env).bind fun p => match p.1.view p.2 with
  | some (.int i) => .ok (some i, p.2)
  | _ => .fail
theorem fo_none {X : Cx} : FO X none fNoPart := ⟨fun W tk => ⟨fun pins s σ H Q I hq => by
  obtain ⟨g, rfl, rfl, ok, o⟩ := hq
  exact po_none.run pins s g.st g.H Q I (o g rfl rfl (.refl g) ok)⟩⟩
theorem fo_some {X : Cx} {e : Expr} {f : EF} (h : FE X e f) : FO X (some e) (fPart f) := ⟨fun W tk => ⟨fun pins s σ H Q I hq => by
  obtain ⟨g, rfl, rfl, ok, o⟩ := hq
  refine (po_some (h.pe W tk)).run pins s g.st g.H Q I ⟨g, rfl, rfl, ok, o.bind0.imp fun g1 r1 st1 e1 ok1 p1 v1 rr1 => ?_⟩
  split at p1
  · rename_i i h1
    obtain rfl := dw_int (rr1.dw ok1 h1)
    exact ⟨i, rfl, p1 g1 rfl e1 st1 ok1⟩
  · exact p1.elim⟩⟩
def fSl (f : EF) (lo hi : OF) : EF := fun env => (f env).bind fun p => (lo p.2).bind fun q => (hi q.2).bind fun r => match p.1.view r.2 with
  | some x => match opSl x q.1 r.1 with
    | some res => .ok (res, r.2)
    | none => .fail
  | none => .fail
theorem fe_slice {X : Cx} {e : Expr} {lo hi : Option Expr} {f : EF} {fl fh : OF} {p2 pos : Pos} (h : FE X e f) (hl : FO X lo fl) (hh : FO X hi fh) : FE X (.Subscript e (.Slice lo hi none p2) pos) (fSl f fl fh) := by
  refine ⟨fun W tk => ⟨fun pins s σ H Q I hq => ?_⟩⟩
  obtain ⟨g, rfl, rfl, ok, o⟩ := hq
  refine (pe_slice ((sl_list (X := X)).or ((sl_tupA (X := X)).or sl_str)) (h.pe W tk) (hl.po W tk) (hh.po W tk)).run pins s g.st g.H Q I ⟨g, rfl, rfl, ok, o.bind0.imp fun g1 r1 st1 e1 ok1 p1 v1 rr1 => ?_⟩
  refine ⟨g1, e1, rfl, ok1, (p1.rebase ok st1 e1).bind0.imp fun g2 o2 st2 e2 ok2 p2 => ?_⟩
  refine ⟨g2, e2.trans e1, rfl, ok2, (p2.rebase ok1 st2 e2).bind0.imp fun g3 o3 st3 e3 ok3 p3 => ?_⟩
  have rr3 := (rr1.step ok1 st2 e2).step ok2 st3 e3
  have dom : ∀ a, g.H a ≠ none → g3.H a ≠ none := fun a h => st3.ext.dom a (st2.ext.dom a (st1.ext.dom a h))
  cases hx : r1.view g3.env with
  | none => rw [hx] at p3; exact p3.elim
  | some x =>
    rw [hx] at p3
    have dx := rr3.dw ok3 hx
    simp only at p3
    cases hr : opSl x o2 o3 with
    | none => rw [hr] at p3; exact p3.elim
    | some res =>
      rw [hr] at p3
      have fin : ∀ v' (g' : G), g'.st = g3.st → g'.env = g3.env → Stp g3 g' → g'.Ok X.K → RVR X.K g3.H g' res v' → Q v' g'.H := fun v' g' e4 e5 st4 ok4 rr4 =>
        p3 g' e5 (e4.trans e3) (st3.trans ok2 st4) ok4 v' (rr4.old dom)
      unfold opSl at hr
      split at hr
      · cases hr
        obtain ⟨a, vs, rfl, q, r⟩ := dw_lst dx
        refine .inl ⟨a, vs, rfl, q, fun p hp => ?_⟩
        obtain ⟨s2, ok4, r4⟩ := alloc_lst ok3 hp (cut_dvs r o2 o3)
        exact fin _ { g3 with A := fun b => g3.A b ∨ b = p, H := upd g3.H p (.lst (cutV vs o2 o3)) } rfl rfl s2 ok4 r4
      · cases hr
        obtain ⟨a, vs, rfl, q, r⟩ := dw_tup dx
        refine .inr (.inl ⟨a, vs, rfl, q, fun hw => ?_, fun _ p hp => ?_⟩)
        · refine fin _ g3 rfl rfl (.refl g3) ok3 ?_
          rw [← r.length] at hw
          rw [cut_whole hw]
          exact dx
        · obtain ⟨s2, ok4, r4⟩ := alloc_tup ok3 hp (cut_dvs r o2 o3)
          exact fin _ { g3 with H := upd g3.H p (.tup (cutV vs o2 o3)) } rfl rfl s2 ok4 r4
      · split at hr
        · cases hr
          rename_i hz
          obtain rfl := dw_str dx
          exact .inr (.inr ⟨_, rfl, by rw [← lim_line]; exact hz, fin _ g3 rfl rfl (.refl g3) ok3 (by show Dv _ _ _ _ _; simp only [Dv])⟩)
        · cases hr
      · cases hr

/-! ### arguments that are read -/
/-- no new object among them is v -/
def TmpNe (v : V) : List RV → List V → Prop
  | .tmp _ :: rs, w :: t => w ≠ v ∧ TmpNe v rs t
  | _ :: rs, _ :: t => TmpNe v rs t
  | _, _ => True
def RVRs (K : PySem.W.Frag) (H0 : Hp) (g : G) : List RV → List V → Prop
  | [], vs => vs = []
  | r :: rs, vs => ∃ v t, vs = v :: t ∧ RVR K H0 g r v ∧ RVRs K H0 g rs t ∧ ∀ c, r = .tmp c → TmpNe v rs t
theorem tmpNe_of {K : PySem.W.Frag} {H0 : Hp} {g : G} {a : Addr} (ha : H0 a ≠ none) : ∀ {rs : List RV} {t : List V}, RVRs K H0 g rs t → TmpNe (.ref a) rs t
  | [], _, h => by simp [TmpNe]
  | r :: rs, _, ⟨v, t, rfl, h1, h2, _⟩ => by
    have ih := tmpNe_of ha h2
    cases r with
    | tmp c =>
      obtain ⟨b, rfl, _, _, hb, _⟩ := h1
      exact ⟨fun z => by cases z; exact ha hb, ih⟩
    | _ => exact ih
abbrev EFs := SE → Res (List RV × SE)
def tPs (X : Cx) (W : WX) (f : EFs) : TA := fun σ H Q => ∃ g : G, g.st = σ ∧ g.H = H ∧ g.Ok X.K ∧ Out X W g (f g.env) fun g' rs => ∀ vs, RVRs X.K g.H g' rs vs → Q vs g'.H
structure FPs (X : Cx) (es : List Expr) (f : EFs) : Prop where
  pa : ∀ W, Takes X W → PA X es (tPs X W f)
def fPNil : EFs := fun env => .ok ([], env)
def fPCons (f : EF) (t : EFs) : EFs := fun env => (f env).bind fun p => (t p.2).bind fun q => .ok (p.1 :: q.1, q.2)
theorem fps_nil {X : Cx} : FPs X [] fPNil := ⟨fun W tk => ⟨fun pos pins s σ H Q I hq => by
  obtain ⟨g, rfl, rfl, ok, o⟩ := hq
  exact pa_nil.run pos pins s g.st g.H Q I (o g rfl rfl (.refl g) ok [] rfl)⟩⟩
theorem RVRs.old {K : PySem.W.Frag} {H0 H1 : Hp} {g : G} (d : ∀ a, H0 a ≠ none → H1 a ≠ none) : ∀ {rs : List RV} {vs : List V}, RVRs K H1 g rs vs → RVRs K H0 g rs vs
  | [], _, h => h
  | _ :: _, _, ⟨v, t, e, h1, h2, h3⟩ => ⟨v, t, e, h1.old d, RVRs.old d h2, h3⟩
theorem FPs.go {X : Cx} {es : List Expr} {f : EFs} (h : FPs X es f) {W : WX} (tk : Takes X W) {g : G} (ok : g.Ok X.K) {pos : Pos} {pins : List (Addr × Obj)} {s : Shared} (I : Inv X pins g.st g.H s) {P : G → List RV → Prop} (o : Out X W g (f g.env) P)
    {Q : List Value → Shared → Prop} (hQ : ∀ u s' g' x v, g'.st = g.st → Inv X pins g'.st g'.H s' → Vals v u → g'.Ok X.K → Stp g g' → RVRs X.K g.H g' x v → P g' x → Q u s') :
    wpAny (model X.prog X.w) X.A (spliced (backTo pos (starEach es X.env))) Q X.xe s := by
  refine thn ((h.pa W tk).run pos pins s g.st g.H (fun v H' => ∃ g' x, g'.H = H' ∧ g'.st = g.st ∧ g'.Ok X.K ∧ Stp g g' ∧ RVRs X.K g.H g' x v ∧ P g' x) I ⟨g, rfl, rfl, ok, o.imp fun g' x st e o p v r => ⟨g', x, rfl, e, o, st, r, p⟩⟩) ?_
  rintro u s' ⟨v, H', I', r, g', x, rfl, e, o', st, rr, p⟩
  exact hQ u s' g' x v e (e ▸ I') r o' st rr p
theorem fps_cons {X : Cx} {e : Expr} {es : List Expr} {f : EF} {t : EFs} (h : FE X e f) (ht : FPs X es t) (hs : starEach (e :: es) X.env = (false, eval e X.env) :: starEach es X.env := by rfl) : FPs X (e :: es) (fPCons f t) := by
  refine ⟨fun W tk => ⟨fun pos pins s σ H Q I hq => ?_⟩⟩
  obtain ⟨g, rfl, rfl, ok, o⟩ := hq
  rw [hs]
  show wpAny _ _ (spliced ((false, eval e X.env) :: backTo pos (starEach es X.env))) _ _ s
  refine Calls.spliced_cons (h.go tk ok I o.bind0 fun u s1 g1 x v e1 I1 r o1 st rr p => ?_)
  refine ht.go tk o1 I1 (p.rebase ok st e1).bind0 fun us s2 g2 xs vs e2 I2 r2 o2 st2 rr2 p2 => ?_
  exact ⟨v :: vs, g2.H, by rw [← e1, ← e2]; exact I2, .cons r r2, p2 g2 rfl e2 st2 o2 _ ⟨v, vs, rfl, rr.step o1 st2 e2, rr2.old st.ext.dom, fun c hc => by
    subst hc
    obtain ⟨a, rfl, _, h3, _⟩ := rr
    exact tmpNe_of h3.some rr2⟩⟩
def views : List RV → SE → Option (List PyData)
  | [], _ => some []
  | r :: rs, env => match r.view env, views rs env with
    | some x, some xs => some (x :: xs)
    | _, _ => none
def Dws (K : PySem.W.Frag) (A : AS) (H : Hp) : List PyData → List V → Prop
  | [], vs => vs = []
  | x :: xs, vs => ∃ v t, vs = v :: t ∧ Dw K A H x v ∧ Dws K A H xs t
theorem RVRs.dws {K : PySem.W.Frag} {H0 : Hp} {g : G} (ok : g.Ok K) : ∀ {rs : List RV} {vs : List V} {xs : List PyData}, RVRs K H0 g rs vs → views rs g.env = some xs → Dws K g.A g.H xs vs
  | [], vs, xs, h, e => by cases e; exact h
  | r :: rs, vs, xs, ⟨v, t, e1, h1, h2, _⟩, e => by
    unfold views at e
    split at e
    · rename_i x ys hx hy
      cases e
      exact ⟨v, t, e1, h1.dw ok hx, RVRs.dws ok h2 hy⟩
    · cases e

/-! ### built-in functions -/
def CallD (X : Cx) (fv : Value) (op : List PyData → Option RV) : Prop :=
  ∀ (g : G) (pins : List (Addr × Obj)) (s : Shared) (xs : List PyData) (vs : List V) (us : List Value) (r : RV), g.Ok X.K → Inv X pins g.st g.H s → Dws X.K g.A g.H xs vs → Vals vs us → op xs = some r →
    wpAny (model X.prog X.w) X.A (call fv us) (OpQ X pins g r) X.xe s
def fCall (op : List PyData → Option RV) (f : EFs) : EF := fun env => (f env).bind fun p => match views p.1 p.2 with
  | some xs => match op xs with
    | some r => .ok (r, p.2)
    | none => .fail
  | none => .fail
section
variable {X : Cx} {x : Str} {p pos : Pos} {e : Expr} {es : List Expr} {f : EFs} {id T : String} {op : List PyData → Option RV}
theorem call_end {fv : Value} (hc : CallD X fv op) {W : WX} {g g1 : G} {pins : List (Addr × Obj)} {s : Shared} {P : G → RV → Prop} {rs : List RV} {vs : List V} {us : List Value} (ok : g.Ok X.K) (e1 : g1.st = g.st) (I1 : Inv X pins g1.st g1.H s) (r : Vals vs us) (ok1 : g1.Ok X.K)
    (st : Stp g g1) (rr : RVRs X.K g.H g1 rs vs) (p : Out X W g (match views rs g1.env with
      | some xs => match op xs with
        | some r => .ok (r, g1.env)
        | none => .fail
      | none => .fail) P) :
    wpAny (model X.prog X.w) X.A (call fv us) (fun u s' => ∃ v g' rv, Inv X pins g.st g'.H s' ∧ RelV v u ∧ RVR X.K g.H g' rv v ∧ P g' rv) X.xe s := by
  cases hx : views rs g1.env with
  | none => rw [hx] at p; exact p.elim
  | some xs =>
    rw [hx] at p
    simp only at p
    cases hr : op xs with
    | none => rw [hr] at p; exact p.elim
    | some res =>
      rw [hr] at p
      refine thn (hc g1 pins s xs vs us res ok1 I1 (rr.dws ok1 hx) r hr) ?_
      rintro z s2 ⟨v, g2, e2, e3, I2, r2, st2, ok2, rr2⟩
      exact ⟨v, g2, res, by rw [← e1]; exact I2, r2, rr2.old st.ext.dom, p g2 e3 (e2.trans e1) (st.trans ok st2) ok2⟩
theorem fe_callB (hc : CallD X (.builtin id) op) (hg : Gl X x) (hm : X.mg x = none) (hv : bootBuiltins x = some (.builtin id)) (ha : FPs X (e :: es) f) (hn : x ≠ "__name__" := by decide) (hdb : (x == ("__debug__" : Str)) = false := by decide)
    (he : starEach (e :: es) X.env = (false, eval e X.env) :: starEach es X.env := by rfl) (hpl : (backTo pos (starEach es X.env)).any (·.1) = false := by rfl) : FE X (.Call (.Name x p) (e :: es) [] pos) (fCall op f) :=
  fe_mk fun W tk g pins s P ok I o => by
    refine wpAny_Call_Name_kw (ld_blt I hg hm hv ?_ hn hdb)
    exact PyProof.Rows.callWith_builtin1 (ha.go tk ok I o.bind0 fun us s1 g1 rs vs e1 I1 r ok1 st rr p => call_end hc ok e1 I1 r ok1 st rr p) he hpl
theorem fe_callTy (hc : CallD X (.type T) op) (hg : Gl X x) (hm : X.mg x = none) (hv : bootBuiltins x = some (.type T)) (ha : FPs X (e :: es) f) (hn : x ≠ "__name__" := by decide) (hdb : (x == ("__debug__" : Str)) = false := by decide)
    (he : starEach (e :: es) X.env = (false, eval e X.env) :: starEach es X.env := by rfl) (hpl : (backTo pos (starEach es X.env)).any (·.1) = false := by rfl) : FE X (.Call (.Name x p) (e :: es) [] pos) (fCall op f) :=
  fe_mk fun W tk g pins s P ok I o => by
    refine wpAny_Call_Name_kw (ld_blt I hg hm hv ?_ hn hdb)
    exact PyProof.Rows.callWith_type1 (ha.go tk ok I o.bind0 fun us s1 g1 rs vs e1 I1 r ok1 st rr p => call_end hc ok e1 I1 r ok1 st rr p) he hpl
end
/-- from a rule of HandS -/
theorem CallD.of {X : Cx} {fv : Value} {r : List V → Hp → VK → Prop} {op : List PyData → Option RV} (h : CallR X fv r)
    (hq : ∀ (g : G) (xs : List PyData) (vs : List V) (res : RV) (Q : VK), g.Ok X.K → Dws X.K g.A g.H xs vs → op xs = some res →
      (∀ v' (g' : G), g'.st = g.st → g'.env = g.env → Stp g g' → g'.Ok X.K → RVR X.K g.H g' res v' → Q v' g'.H) → r vs g.H Q) : CallD X fv op := by
  intro g pins s xs vs us res ok I hx rv e
  refine thn (h pins s g.st g.H vs us (fun v' H' => ∃ g' : G, g'.H = H' ∧ g'.st = g.st ∧ g'.env = g.env ∧ Stp g g' ∧ g'.Ok X.K ∧ RVR X.K g.H g' res v') I rv (hq g xs vs res _ ok hx e fun v' g' e1 e2 e3 e4 e5 => ⟨g', rfl, e1, e2, e3, e4, e5⟩)) ?_
  rintro z s' ⟨v', H', I', r', g', rfl, e1, e2, e3, e4, e5⟩
  exact ⟨v', g', e1, e2, I', r', e3, e4, e5⟩
theorem dws1 {K : PySem.W.Frag} {A : AS} {H : Hp} {x : PyData} {vs : List V} (h : Dws K A H [x] vs) : ∃ v, vs = [v] ∧ Dw K A H x v := by
  obtain ⟨v, t, rfl, h, rfl⟩ := h
  exact ⟨v, rfl, h⟩
theorem dws2 {K : PySem.W.Frag} {A : AS} {H : Hp} {x y : PyData} {vs : List V} (h : Dws K A H [x, y] vs) : ∃ v w, vs = [v, w] ∧ Dw K A H x v ∧ Dw K A H y w := by
  obtain ⟨v, t, rfl, h, w, t2, rfl, h2, rfl⟩ := h
  exact ⟨v, w, rfl, h, h2⟩
def opLen : List PyData → Option RV
  | [.str z] => if z.length ≤ lim then some (.d (.int z.length)) else none
  | [.list xs] => some (.d (.int xs.length))
  | [.tuple xs] => some (.d (.int xs.length))
  | _ => none
def opAbs : List PyData → Option RV
  | [.int i] => some (.d (.int (if i < 0 then -i else i)))
  | _ => none
def opToInt : List PyData → Option RV
  | [.int i] => some (.d (.int i))
  | [.bool b] => some (.d (.int (if b then 1 else 0)))
  | _ => none
def opTuple : List PyData → Option RV
  | [.list xs] => some (.d (.tuple xs))
  | [.tuple xs] => some (.d (.tuple xs))
  | _ => none
def opList : List PyData → Option RV
  | [.list xs] => some (.tmp (.lst xs))
  | [.tuple xs] => some (.tmp (.lst xs))
  | _ => none
def opMax2 : List PyData → Option RV
  | [.int i, .int j] => some (.d (.int (if j > i then j else i)))
  | _ => none
def opMin2 : List PyData → Option RV
  | [.int i, .int j] => some (.d (.int (if j < i then j else i)))
  | _ => none
/-- ints out of data -/
def intsOf : List PyData → Option (List Int)
  | [] => some []
  | .int i :: r => (intsOf r).map (i :: ·)
  | _ => none
theorem intsOf_map {xs : List PyData} {ns : List Int} (h : intsOf xs = some ns) : xs = ns.map .int := by
  induction xs generalizing ns with
  | nil => cases h; rfl
  | cons x r ih =>
    cases x with
    | int i =>
      simp only [intsOf] at h
      cases hr : intsOf r with
      | none => rw [hr] at h; cases h
      | some ms => rw [hr] at h; cases h; rw [ih hr]; rfl
    | _ => simp [intsOf] at h
@[simp] theorem intsOf_ints (ns : List Int) : intsOf (ns.map .int) = some ns := by
  induction ns with
  | nil => rfl
  | cons n r ih => simp [intsOf, ih]
theorem dvs_ints {K : PySem.W.Frag} {A : AS} {H : Hp} : ∀ {ns : List Int} {vs : List V}, Dvs K A H (ns.map .int) vs → vs = ns.map V.int
  | [], vs, h => by simpa [Dvs] using h
  | n :: ns, vs, h => by
    simp only [List.map_cons, Dvs] at h
    obtain ⟨v, r, rfl, h1, h2⟩ := h
    simp only [Dv] at h1
    rw [h1, dvs_ints h2]; rfl
def opSum : List PyData → Option RV
  | [.list xs] => (intsOf xs).map fun ns => .d (.int ns.sum)
  | _ => none
/-- any, all of a row of bools, of anything with a truth -/
def trusOf : List PyData → Option (List Bool)
  | [] => some []
  | x :: r => match truD x, trusOf r with
    | some b, some bs => some (b :: bs)
    | _, _ => none
def boolsOf : List PyData → Option (List Bool)
  | [] => some []
  | .bool i :: r => (boolsOf r).map (i :: ·)
  | _ => none
theorem boolsOf_map {xs : List PyData} {ns : List Bool} (h : boolsOf xs = some ns) : xs = ns.map .bool := by
  induction xs generalizing ns with
  | nil => cases h; rfl
  | cons x r ih =>
    cases x with
    | bool i =>
      simp only [boolsOf] at h
      cases hr : boolsOf r with
      | none => rw [hr] at h; cases h
      | some ms => rw [hr] at h; cases h; rw [ih hr]; rfl
    | _ => simp [boolsOf] at h
@[simp] theorem boolsOf_bools (ns : List Bool) : boolsOf (ns.map .bool) = some ns := by
  induction ns with
  | nil => rfl
  | cons n r ih => simp [boolsOf, ih]
theorem dvs_bools {K : PySem.W.Frag} {A : AS} {H : Hp} : ∀ {ns : List Bool} {vs : List V}, Dvs K A H (ns.map .bool) vs → vs = ns.map V.bl
  | [], vs, h => by simpa [Dvs] using h
  | n :: ns, vs, h => by
    simp only [List.map_cons, Dvs] at h
    obtain ⟨v, r, rfl, h1, h2⟩ := h
    simp only [Dv] at h1
    rw [h1, dvs_bools h2]; rfl
def opAny : List PyData → Option RV
  | [.list xs] => (boolsOf xs).map fun bs => .d (.bool (bs.any id))
  | _ => none
def opAll : List PyData → Option RV
  | [.list xs] => (boolsOf xs).map fun bs => .d (.bool (bs.all id))
  | _ => none
section
variable {X : Cx}
theorem rvr_int {K : PySem.W.Frag} {H0 : Hp} {g : G} {i : Int} : RVR K H0 g (.d (.int i)) (.int i) := by show Dv _ _ _ _ _; simp only [Dv]
theorem rvr_bl {K : PySem.W.Frag} {H0 : Hp} {g : G} {i : Bool} : RVR K H0 g (.d (.bool i)) (.bl i) := by show Dv _ _ _ _ _; simp only [Dv]
theorem rvr_str {K : PySem.W.Frag} {H0 : Hp} {g : G} {i : Str} : RVR K H0 g (.d (.str i)) (.str i) := by show Dv _ _ _ _ _; simp only [Dv]
theorem cd_len : CallD X (.builtin "len") opLen := .of call_len fun g xs vs res Q ok hx e hQ => by
  unfold opLen at e
  split at e
  · split at e
    · rename_i hz
      obtain ⟨v, rfl, hv⟩ := dws1 hx
      cases e
      obtain rfl := dw_str hv
      exact ⟨_, _, rfl, ⟨by rw [← lim_line]; exact hz, rfl⟩, hQ _ g rfl rfl (.refl g) ok rvr_int⟩
    · cases e
  · obtain ⟨v, rfl, hv⟩ := dws1 hx
    cases e
    obtain ⟨a, ws, rfl, q, r⟩ := dw_lst hv
    exact ⟨_, _, rfl, .inl ⟨ws, q, r.length⟩, hQ _ g rfl rfl (.refl g) ok rvr_int⟩
  · obtain ⟨v, rfl, hv⟩ := dws1 hx
    cases e
    obtain ⟨a, ws, rfl, q, r⟩ := dw_tup hv
    exact ⟨_, _, rfl, .inr ⟨ws, q, r.length⟩, hQ _ g rfl rfl (.refl g) ok rvr_int⟩
  · cases e
theorem cd_abs : CallD X (.builtin "abs") opAbs := .of call_abs fun g xs vs res Q ok hx e hQ => by
  unfold opAbs at e
  split at e
  · obtain ⟨v, rfl, hv⟩ := dws1 hx
    cases e
    obtain rfl := dw_int hv
    exact ⟨_, rfl, hQ _ g rfl rfl (.refl g) ok rvr_int⟩
  · cases e
theorem cd_int : CallD X (.type "int") opToInt := .of call_int1 fun g xs vs res Q ok hx e hQ => by
  unfold opToInt at e
  split at e
  · obtain ⟨v, rfl, hv⟩ := dws1 hx
    cases e
    obtain rfl := dw_int hv
    exact .inl ⟨_, rfl, hQ _ g rfl rfl (.refl g) ok rvr_int⟩
  · obtain ⟨v, rfl, hv⟩ := dws1 hx
    cases e
    rename_i b
    obtain rfl := dw_scal (x := .bool b) rfl hv
    exact .inr ⟨_, rfl, hQ _ g rfl rfl (.refl g) ok rvr_int⟩
  · cases e
theorem cd_tuple : CallD X (.type "tuple") opTuple := .of call_tuple_of fun g xs vs res Q ok hx e hQ => by
  unfold opTuple at e
  split at e
  · obtain ⟨v, rfl, hv⟩ := dws1 hx
    cases e
    obtain ⟨a, ws, rfl, q, r⟩ := dw_lst hv
    refine ⟨a, ws, rfl, .inl ⟨q, fun l hl => ?_⟩⟩
    obtain ⟨s2, ok2, r2⟩ := alloc_tup ok hl r
    exact hQ _ { g with H := upd g.H l (.tup ws) } rfl rfl s2 ok2 r2
  · obtain ⟨v, rfl, hv⟩ := dws1 hx
    cases e
    obtain ⟨a, ws, rfl, q, r⟩ := dw_tup hv
    exact ⟨a, ws, rfl, .inr ⟨q, hQ _ g rfl rfl (.refl g) ok hv⟩⟩
  · cases e
theorem cd_list : CallD X (.type "list") opList := .of call_list_of fun g xs vs res Q ok hx e hQ => by
  unfold opList at e
  split at e
  · obtain ⟨v, rfl, hv⟩ := dws1 hx
    cases e
    obtain ⟨a, ws, rfl, q, r⟩ := dw_lst hv
    refine ⟨a, ws, rfl, .inl q, fun l hl => ?_⟩
    obtain ⟨s2, ok2, r2⟩ := alloc_lst ok hl r
    exact hQ _ { g with A := fun b => g.A b ∨ b = l, H := upd g.H l (.lst ws) } rfl rfl s2 ok2 r2
  · obtain ⟨v, rfl, hv⟩ := dws1 hx
    cases e
    obtain ⟨a, ws, rfl, q, r⟩ := dw_tup hv
    refine ⟨a, ws, rfl, .inr q, fun l hl => ?_⟩
    obtain ⟨s2, ok2, r2⟩ := alloc_lst ok hl r
    exact hQ _ { g with A := fun b => g.A b ∨ b = l, H := upd g.H l (.lst ws) } rfl rfl s2 ok2 r2
  · cases e
theorem cd_max2 (hc : X.calm = true) : CallD X (.builtin "max") opMax2 := .of (call_max2 hc) fun g xs vs res Q ok hx e hQ => by
  unfold opMax2 at e
  split at e
  · obtain ⟨v, w, rfl, hv, hw⟩ := dws2 hx
    cases e
    obtain rfl := dw_int hv
    obtain rfl := dw_int hw
    exact ⟨_, _, rfl, hQ _ g rfl rfl (.refl g) ok rvr_int⟩
  · cases e
theorem cd_min2 (hc : X.calm = true) : CallD X (.builtin "min") opMin2 := .of (call_min2 hc) fun g xs vs res Q ok hx e hQ => by
  unfold opMin2 at e
  split at e
  · obtain ⟨v, w, rfl, hv, hw⟩ := dws2 hx
    cases e
    obtain rfl := dw_int hv
    obtain rfl := dw_int hw
    exact ⟨_, _, rfl, hQ _ g rfl rfl (.refl g) ok rvr_int⟩
  · cases e
theorem cd_sum (hc : X.calm = true) : CallD X (.builtin "sum") opSum := .of (cr_sum hc) fun g xs vs res Q ok hx e hQ => by
  unfold opSum at e
  split at e
  · obtain ⟨v, rfl, hv⟩ := dws1 hx
    cases hi : intsOf _ with
    | none => rw [hi] at e; cases e
    | some ns =>
      rw [hi] at e; cases e
      obtain ⟨a, ws, rfl, q, r⟩ := dw_lst hv
      rw [intsOf_map hi] at r
      rw [dvs_ints r] at q
      exact ⟨a, ns, rfl, q, hQ _ g rfl rfl (.refl g) ok rvr_int⟩
  · cases e
theorem cd_any (hc : X.calm = true) : CallD X (.builtin "any") opAny := .of (cr_any hc) fun g xs vs res Q ok hx e hQ => by
  unfold opAny at e
  split at e
  · obtain ⟨v, rfl, hv⟩ := dws1 hx
    cases hi : boolsOf _ with
    | none => rw [hi] at e; cases e
    | some ns =>
      rw [hi] at e; cases e
      obtain ⟨a, ws, rfl, q, r⟩ := dw_lst hv
      rw [boolsOf_map hi] at r
      rw [dvs_bools r] at q
      exact ⟨a, ns, rfl, q, hQ _ g rfl rfl (.refl g) ok rvr_bl⟩
  · cases e
theorem cd_all (hc : X.calm = true) : CallD X (.builtin "all") opAll := .of (cr_all hc) fun g xs vs res Q ok hx e hQ => by
  unfold opAll at e
  split at e
  · obtain ⟨v, rfl, hv⟩ := dws1 hx
    cases hi : boolsOf _ with
    | none => rw [hi] at e; cases e
    | some ns =>
      rw [hi] at e; cases e
      obtain ⟨a, ws, rfl, q, r⟩ := dw_lst hv
      rw [boolsOf_map hi] at r
      rw [dvs_bools r] at q
      exact ⟨a, ns, rfl, q, hQ _ g rfl rfl (.refl g) ok rvr_bl⟩
  · cases e
end
end BH

set_option maxRecDepth 100000
set_option maxHeartbeats 2000000
namespace BH
open PySem PySem.Spec PyProof.Rows L2

/-! ### slots locked while they are walked -/
def lock1 (env : SE) (i : Nat) : SE := match env[i]? with
  | some (some (.cell _ c)) => env.set i (some (.cell .lock c))
  | _ => env
def unlock1 (env0 : SE) (i : Nat) (env : SE) : SE := match env0[i]? with
  | some (some (.cell m c)) => env.set i (some (.cell m c))
  | _ => env
def lockAll : List Nat → SE → SE
  | [], env => env
  | i :: r, env => lockAll r (lock1 env i)
def unlockAll : List Nat → SE → SE → SE
  | [], _, env => env
  | i :: r, env0, env => unlock1 env0 i (unlockAll r (lock1 env0 i) env)
def lockG (lk : List Nat) (g : G) : G := { g with env := lockAll lk g.env }

section
variable {K : PySem.W.Frag} {g g' : G} {i : Nat}
theorem lock1_get {env : SE} {j : Nat} {mv : MV} (h : (lock1 env i)[j]? = some (some mv)) : (j ≠ i ∧ env[j]? = some (some mv)) ∨ (j = i ∧ ∃ m c, env[j]? = some (some (.cell m c)) ∧ mv = .cell .lock c) ∨ (j = i ∧ ∃ x, mv = .d x ∧ env[j]? = some (some (.d x))) := by
  unfold lock1 at h
  split at h
  · rename_i m c hi
    by_cases e : j = i
    · subst e
      have hl := (List.getElem?_eq_some_iff.mp hi).1
      rw [List.getElem?_set_self hl] at h
      simp only [Option.some.injEq] at h
      exact .inr (.inl ⟨rfl, m, c, hi, h.symm⟩)
    · rw [List.getElem?_set_ne (Ne.symm e)] at h
      exact .inl ⟨e, h⟩
  · rename_i hn
    by_cases e : j = i
    · subst e
      cases mv with
      | d x => exact .inr (.inr ⟨rfl, x, rfl, h⟩)
      | cell m c => exact absurd h (hn m c)
    · exact .inl ⟨e, h⟩
theorem lock1_cell {env : SE} {j : Nat} {m : Mode} {c : Cell} (h : (lock1 env i)[j]? = some (some (.cell m c))) : ∃ m', env[j]? = some (some (.cell m' c)) ∧ (j ≠ i → m' = m) ∧ (j = i → m = .lock) := by
  rcases lock1_get h with ⟨e, h⟩ | ⟨e, m', c', h1, h2⟩ | ⟨e, x, h1, h2⟩
  · exact ⟨m, h, fun _ => rfl, fun z => absurd z e⟩
  · cases h2; exact ⟨m', h1, fun z => absurd e z, fun _ => rfl⟩
  · cases h1
theorem lock1_length (env : SE) : (lock1 env i).length = env.length := by
  unfold lock1; split <;> simp
theorem ok_lock1 (ok : g.Ok K) : ({ g with env := lock1 g.env i } : G).Ok K where
  len := by show g.st.length = (lock1 g.env i).length; rw [lock1_length]; exact ok.len
  dat := fun j x h => by
    rcases lock1_get h with ⟨e, h⟩ | ⟨e, m', c', h1, h2⟩ | ⟨e, y, h1, h2⟩
    · exact ok.dat j x h
    · cases h2
    · cases h1; exact ok.dat j x h2
  cel := fun j m c h => by
    obtain ⟨m', h1, _, _⟩ := lock1_cell h
    exact ok.cel j m' c h1
  dis := fun j k m c m' c' a hj hk e1 e2 => by
    obtain ⟨m1, h1, _, _⟩ := lock1_cell hj
    obtain ⟨m2, h2, _, _⟩ := lock1_cell hk
    exact ok.dis j k m1 c m2 c' a h1 h2 e1 e2
  dom := ok.dom
theorem own_lock1 {a : Addr} (h : Own { g with env := lock1 g.env i } a) : Own g a := by
  obtain ⟨j, m, c, h1, h2, h3⟩ := h
  obtain ⟨m', q1, q2, q3⟩ := lock1_cell h1
  by_cases e : j = i
  · exact absurd (q3 e) h2
  · exact ⟨j, m', c, q1, by rw [q2 e]; exact h2, h3⟩
theorem unlock_step (ok : g.Ok K) (s : Stp { g with env := lock1 g.env i } g') (ok' : g'.Ok K) : Stp g { g' with env := unlock1 g.env i g'.env } ∧ ({ g' with env := unlock1 g.env i g'.env } : G).Ok K := by
  cases hi : g.env[i]? with
  | none =>
    have e1 : lock1 g.env i = g.env := by unfold lock1; rw [hi]
    have e2 : unlock1 g.env i g'.env = g'.env := by unfold unlock1; rw [hi]
    rw [e1] at s
    rw [e2]
    exact ⟨s, ok'⟩
  | some o =>
    cases o with
    | none =>
      have e1 : lock1 g.env i = g.env := by unfold lock1; rw [hi]
      have e2 : unlock1 g.env i g'.env = g'.env := by unfold unlock1; rw [hi]
      rw [e1] at s
      rw [e2]
      exact ⟨s, ok'⟩
    | some mv =>
      cases mv with
      | d x =>
        have e1 : lock1 g.env i = g.env := by unfold lock1; rw [hi]
        have e2 : unlock1 g.env i g'.env = g'.env := by unfold unlock1; rw [hi]
        rw [e1] at s
        rw [e2]
        exact ⟨s, ok'⟩
      | cell m c =>
        have e1 : lock1 g.env i = g.env.set i (some (.cell .lock c)) := by unfold lock1; rw [hi]
        have e2 : unlock1 g.env i g'.env = g'.env.set i (some (.cell m c)) := by unfold unlock1; rw [hi]
        have hil : i < g.env.length := (List.getElem?_eq_some_iff.mp hi).1
        have hl1 : (lock1 g.env i)[i]? = some (some (.cell .lock c)) := by rw [e1, List.getElem?_set_self hil]
        obtain ⟨z1, z2⟩ := s.lck i c hl1
        have hil' : i < g'.env.length := (List.getElem?_eq_some_iff.mp z2).1
        obtain ⟨a, q1, q2, q3⟩ := ok.cel i m c hi
        have z1 : g'.st[i]? = some (some (.ref a)) := z1.trans q1
        rw [e2]
        have get : ∀ {j : Nat} {mv : MV}, (g'.env.set i (some (.cell m c)))[j]? = some (some mv) → (j ≠ i ∧ g'.env[j]? = some (some mv)) ∨ (j = i ∧ mv = .cell m c) := fun {j mv} h => by
          by_cases e : j = i
          · subst e
            rw [List.getElem?_set_self hil'] at h
            simp only [Option.some.injEq] at h
            exact .inr ⟨rfl, h.symm⟩
          · rw [List.getElem?_set_ne (Ne.symm e)] at h
            exact .inl ⟨e, h⟩
        have back : ∀ {j : Nat} {m' c'}, (g'.env.set i (some (.cell m c)))[j]? = some (some (.cell m' c')) → ∃ m2, g'.env[j]? = some (some (.cell m2 c')) := fun {j m' c'} h => by
          rcases get h with ⟨_, h⟩ | ⟨e, h⟩
          · exact ⟨_, h⟩
          · cases h; subst e; exact ⟨_, z2⟩
        refine ⟨⟨⟨fun b o h n => s.ext.keep b o h fun z => n (own_lock1 z), s.ext.tup, s.ext.frz, s.ext.dom, fun b h n => s.ext.av1 b h fun z => n (own_lock1 z), s.ext.av2⟩, fun b hb => ?_, fun b hb => ?_, fun j c1 hj => ?_, fun j c1 hj => ?_⟩, ⟨by simpa using ok'.len, fun j x h => ?_, fun j m1 c1 h => ?_, fun j k m1 c1 m2 c2 b hj hk w1 w2 => ?_, ok'.dom⟩⟩
        · obtain ⟨j, m1, c1, h1, h2, h3⟩ := hb
          rcases get h1 with ⟨e, h⟩ | ⟨e, h⟩
          · rcases s.own b ⟨j, m1, c1, h, h2, h3⟩ with q | q
            · exact .inl (own_lock1 q)
            · exact .inr q
          · cases h; subst e
            have h3 : g'.st[j]? = some (some (.ref b)) := h3
            rw [z1] at h3; cases h3
            exact .inl ⟨j, m, c, hi, h2, q1⟩
        · obtain ⟨j, m1, c1, h1, h3⟩ := hb
          obtain ⟨m2, h⟩ := back h1
          rcases s.has b ⟨j, m2, c1, h, h3⟩ with ⟨j', m', c', q, q'⟩ | q
          · obtain ⟨m3, q5, _, _⟩ := lock1_cell q
            exact .inl ⟨j', m3, c', q5, q'⟩
          · exact .inr q
        · by_cases e : j = i
          · subst e
            rw [hi] at hj
            cases hj
            exact ⟨z1.trans q1.symm, c, by show (g'.env.set j _)[j]? = _; rw [List.getElem?_set_self hil']⟩
          · have : (lock1 g.env i)[j]? = some (some (.cell .bor c1)) := by rw [e1, List.getElem?_set_ne (Ne.symm e)]; exact hj
            obtain ⟨y1, c2, y2⟩ := s.bor j c1 this
            exact ⟨y1, c2, by show (g'.env.set i _)[j]? = _; rw [List.getElem?_set_ne (Ne.symm e)]; exact y2⟩
        · by_cases e : j = i
          · subst e
            rw [hi] at hj
            cases hj
            exact ⟨z1.trans q1.symm, by show (g'.env.set j _)[j]? = _; rw [List.getElem?_set_self hil']⟩
          · have : (lock1 g.env i)[j]? = some (some (.cell .lock c1)) := by rw [e1, List.getElem?_set_ne (Ne.symm e)]; exact hj
            obtain ⟨y1, y2⟩ := s.lck j c1 this
            exact ⟨y1, by show (g'.env.set i _)[j]? = _; rw [List.getElem?_set_ne (Ne.symm e)]; exact y2⟩
        · rcases get h with ⟨e, h⟩ | ⟨e, h⟩
          · exact ok'.dat j x h
          · cases h
        · obtain ⟨m2, h'⟩ := back h
          exact ok'.cel j m2 c1 h'
        · obtain ⟨m3, h3⟩ := back hj
          obtain ⟨m4, h4⟩ := back hk
          exact ok'.dis j k m3 c1 m4 c2 b h3 h4 w1 w2
end
theorem ok_lockAll {K : PySem.W.Frag} : ∀ (lk : List Nat) {g : G}, g.Ok K → (lockG lk g).Ok K
  | [], _, ok => ok
  | i :: r, g, ok => ok_lockAll r (g := { g with env := lock1 g.env i }) (ok_lock1 ok)
theorem unlock_all {K : PySem.W.Frag} : ∀ (lk : List Nat) {g g' : G}, g.Ok K → Stp (lockG lk g) g' → g'.Ok K →
    Stp g { g' with env := unlockAll lk g.env g'.env } ∧ ({ g' with env := unlockAll lk g.env g'.env } : G).Ok K
  | [], g, g', ok, s, ok' => ⟨s, ok'⟩
  | i :: r, g, g', ok, s, ok' => by
    obtain ⟨h1, h2⟩ := unlock_all r (g := { g with env := lock1 g.env i }) (g' := g') (ok_lock1 ok) s ok'
    exact unlock_step ok h1 h2
theorem own_lockAll : ∀ (lk : List Nat) {g : G} {a : Addr}, Own (lockG lk g) a → Own g a
  | [], _, _, h => h
  | i :: r, g, a, h => own_lock1 (own_lockAll r (g := { g with env := lock1 g.env i }) h)
/-- a locked slot's object is no one's to change -/
theorem lock_not {K : PySem.W.Frag} {g : G} {i : Nat} {m : Mode} {c : Cell} {a : Addr} (ok : g.Ok K) (h : g.env[i]? = some (some (.cell m c))) (ha : g.st[i]? = some (some (.ref a))) : ¬ Own { g with env := lock1 g.env i } a := by
  rintro ⟨j, m', c', h1, h2, h3⟩
  obtain ⟨m2, q1, q2, q3⟩ := lock1_cell h1
  have h3 : g.st[j]? = some (some (.ref a)) := h3
  have e := ok.dis j i _ _ _ _ a q1 h h3 ha
  exact h2 (q3 e)

/-! ### what is walked -/
/-- the iterator yields just the data xs, as long as the objects at L stay -/
def ItOk (K : PySem.W.Frag) (L : AS) (J : It) (xs : List PyData) (A : AS) (H : Hp) : Prop :=
  ∃ S : AS → Hp → Prop, S A H ∧ (∀ O A H A' H', S A H → Ext O A H A' H' → (∀ a, O a → A a) → (∀ a, L a → ¬ O a) → S A' H') ∧ (∀ A H, S A H → ∀ a, L a → H a ≠ none) ∧
    ∀ A H, S A H → (∀ (i : Nat) x0, xs[i]? = some x0 → J.go i H ∧ ∀ x H', J.yld i H x H' → (∀ O, Ext O A H A H') ∧ Dv K A H' x0 x) ∧ J.stop xs.length H
abbrev IF := SE → Res ((List PyData × List Nat) × SE)
def tIt (X : Cx) (W : WX) (f : IF) : TI := fun σ H R => ∃ g : G, g.st = σ ∧ g.H = H ∧ g.Ok X.K ∧ Out X W g (f g.env) fun g' p => ∀ J L, (∀ a, L a → ¬ Own (lockG p.2 g') a) → ItOk X.K L J p.1 g'.A g'.H → R J g'.H
structure FI (X : Cx) (tg iter : Expr) (f : IF) : Prop where
  pi : ∀ W, Takes X W → PI X tg iter (tIt X W f)
def lkOf : RV → SE → List Nat
  | .slot i, env => match env[i]? with
    | some (some (.cell _ _)) => [i]
    | _ => []
  | _, _ => []
/-- where a list's items lie -/
theorem src_lst {K : PySem.W.Frag} {H0 : Hp} {g : G} {r : RV} {v : V} {ds : List PyData} (ok : g.Ok K) (h : RVR K H0 g r v) (e : r.view g.env = some (.list ds)) :
    ∃ a vs, ∃ L : AS, v = .ref a ∧ SqL K g.H a vs ∧ Dvs K g.A g.H ds vs ∧ (∀ b, L b → ¬ Own (lockG (lkOf r g.env) g) b) ∧
      ∃ S : AS → Hp → Prop, S g.A g.H ∧ (∀ O A H A' H', S A H → Ext O A H A' H' → (∀ a, O a → A a) → (∀ a, L a → ¬ O a) → S A' H') ∧ (∀ A H, S A H → ∀ b, L b → H b ≠ none) ∧
        ∀ A H, S A H → SqL K H a vs ∧ Dvs K A H ds vs := by
  have data : ∀ {x : PyData}, Dv K g.A g.H (.list ds) v → lkOf r g.env = [] → ∃ a vs, ∃ L : AS, v = .ref a ∧ SqL K g.H a vs ∧ Dvs K g.A g.H ds vs ∧ (∀ b, L b → ¬ Own (lockG (lkOf r g.env) g) b) ∧
      ∃ S : AS → Hp → Prop, S g.A g.H ∧ (∀ O A H A' H', S A H → Ext O A H A' H' → (∀ a, O a → A a) → (∀ a, L a → ¬ O a) → S A' H') ∧ (∀ A H, S A H → ∀ b, L b → H b ≠ none) ∧
        ∀ A H, S A H → SqL K H a vs ∧ Dvs K A H ds vs := fun {x} d el => by
    simp only [Dv] at d
    obtain ⟨a, vs, rfl, q, t⟩ := d
    refine ⟨a, vs, fun _ => False, rfl, q.sq, t, fun _ z => z.elim, fun A H => LsD K A H a vs ∧ Dvs K A H ds vs, ⟨q, t⟩, fun O A H A' H' ⟨h1, h2⟩ e hO _ => ⟨?_, Dvs.ext e hO ds vs h2⟩, fun _ _ _ _ z => z.elim, fun A H ⟨h1, h2⟩ => ⟨h1.sq, h2⟩⟩
    rcases h1 with ⟨n, q⟩ | q
    · refine .inl ⟨fun z => ?_, e.rd hO (fun z => n (hO a z)) q⟩
      rcases e.av2 a z with y | y
      · exact n y
      · exact rd_some q y
    · exact .inr q
  have cell : ∀ {a : Addr}, v = .ref a → g.A a → CellR K g.A g.H (.lst ds) a → ¬ Own (lockG (lkOf r g.env) g) a → ∃ a vs, ∃ L : AS, v = .ref a ∧ SqL K g.H a vs ∧ Dvs K g.A g.H ds vs ∧ (∀ b, L b → ¬ Own (lockG (lkOf r g.env) g) b) ∧
      ∃ S : AS → Hp → Prop, S g.A g.H ∧ (∀ O A H A' H', S A H → Ext O A H A' H' → (∀ a, O a → A a) → (∀ a, L a → ¬ O a) → S A' H') ∧ (∀ A H, S A H → ∀ b, L b → H b ≠ none) ∧
        ∀ A H, S A H → SqL K H a vs ∧ Dvs K A H ds vs := fun {a} ev hA hc no => by
    obtain ⟨vs, q, t⟩ := hc
    refine ⟨a, vs, fun b => b = a, ev, .of q, t, fun b hb => by rw [hb]; exact no, fun A H => H a = some (.lst vs) ∧ Dvs K A H ds vs, ⟨q, t⟩, fun O A H A' H' ⟨h1, h2⟩ e hO hL => ⟨e.keep _ _ h1 (hL a rfl), Dvs.ext e hO ds vs h2⟩, fun A H ⟨h1, _⟩ b hb => by rw [hb, h1]; simp, fun A H ⟨h1, h2⟩ => ⟨.of h1, h2⟩⟩
  cases r with
  | d y =>
    simp only [RV.view, Option.some.injEq] at e; subst e
    exact data (x := .none) h rfl
  | tmp c =>
    obtain ⟨a, ev, hA, hc, _, hs⟩ := h
    cases c with
    | lst xs =>
      simp only [RV.view, Cell.data, Option.some.injEq, PyData.list.injEq] at e; subst e
      exact cell ev hA hc fun ⟨i, m, c', q1, _, q2⟩ => hs ⟨i, m, c', q1, q2⟩
    | _ => simp [RV.view, Cell.data] at e
  | slot i =>
    have h1 : g.st[i]? = some (some v) := h
    cases h2 : g.env[i]? with
    | none => simp [RV.view, h2] at e
    | some o => cases o with
      | none => simp [RV.view, h2] at e
      | some mv =>
        simp only [RV.view, h2] at e
        cases mv with
        | d y =>
          simp only [MV.data, Option.some.injEq] at e; subst e
          obtain ⟨w, q1, q2⟩ := ok.dat i _ h2
          rw [h1] at q1; cases q1
          exact data (x := .none) q2 (by simp only [lkOf, h2])
        | cell m c =>
          obtain ⟨a, q1, q2, q3⟩ := ok.cel i m c h2
          have q1' := q1
          rw [h1] at q1; cases q1
          cases c with
          | lst xs =>
            simp only [MV.data, Cell.data, Option.some.injEq, PyData.list.injEq] at e; subst e
            have el : lkOf (.slot i) g.env = [i] := by simp only [lkOf, h2]
            refine cell rfl q2 q3 ?_
            rw [el]
            exact lock_not ok h2 q1'
          | _ => simp [MV.data, Cell.data] at e
def fSeq (f : EF) : IF := fun env => (f env).bind fun p => match p.1.view p.2 with
  | some (.list ds) => .ok ((ds, lkOf p.1 p.2), p.2)
  | some (.tuple ds) => .ok ((ds, []), p.2)
  | _ => .fail
theorem itl_ok {K : PySem.W.Frag} {L : AS} {a : Addr} {vs : List V} {ds : List PyData} {A : AS} {H : Hp} {S : AS → Hp → Prop} (h0 : S A H) (hs : ∀ O A H A' H', S A H → Ext O A H A' H' → (∀ a, O a → A a) → (∀ a, L a → ¬ O a) → S A' H') (hd : ∀ A H, S A H → ∀ b, L b → H b ≠ none)
    (hq : ∀ A H, S A H → SqL K H a vs ∧ Dvs K A H ds vs) : ItOk K L (Itl K a) ds A H := by
  refine ⟨S, h0, hs, hd, fun A H h => ?_⟩
  obtain ⟨q, t⟩ := hq A H h
  refine ⟨fun i x0 e => ?_, vs, q, Nat.le_of_eq t.length.symm⟩
  obtain ⟨v, e1, e2⟩ := t.getD e
  refine ⟨⟨vs, v, q, e1⟩, fun x H' y => ?_⟩
  obtain ⟨rfl, y⟩ := y
  have := y vs q
  rw [e1] at this; cases this
  exact ⟨fun O => .refl _ _ _, e2⟩
theorem itt_ok {K : PySem.W.Frag} {a : Addr} {vs : List V} {ds : List PyData} {A : AS} {H : Hp} (q : SqT K H a vs) (t : Dvs K A H ds vs) : ItOk K (fun _ => False) (Itt K a) ds A H := by
  refine ⟨fun A H => SqT K H a vs ∧ Dvs K A H ds vs, ⟨q, t⟩, fun O A H A' H' ⟨h1, h2⟩ e hO _ => ⟨sqt_ext e.tup e.frz h1, Dvs.ext e hO ds vs h2⟩, fun _ _ _ _ z => z.elim, fun A H ⟨q, t⟩ => ?_⟩
  refine ⟨fun i x0 e => ?_, vs, q, Nat.le_of_eq t.length.symm⟩
  obtain ⟨v, e1, e2⟩ := t.getD e
  refine ⟨⟨vs, v, q, e1⟩, fun x H' y => ?_⟩
  obtain ⟨rfl, y⟩ := y
  have := y vs q
  rw [e1] at this; cases this
  exact ⟨fun O => .refl _ _ _, e2⟩
theorem fi_seq {X : Cx} {tg l : Expr} {f : EF} (h : FE X l f) : FI X tg l (fSeq f) := by
  refine ⟨fun W tk => ⟨fun pins s σ H R I hq => ?_⟩⟩
  obtain ⟨g, rfl, rfl, ok, o⟩ := hq
  refine h.go tk ok I o.bind0 fun u s1 g1 rv v e1 I1 r ok1 st rr p => ?_
  split at p
  · rename_i ds hv
    obtain ⟨a, vs, L, rfl, q, t, hL, S, s1', s2, s3, s4⟩ := src_lst ok1 rr hv
    cases r
    obtain ⟨its, rv', pl, hz⟩ := I1.list q
    refine wpAny_pyIter_list pl.isList ?_
    refine ⟨s1.heap.objs.size, [s1.heap.objs.size], _, _, g1.H, rfl, by rw [← e1]; exact I1.kept (t' := s1.toks) fun b o e => Heap.get?_push_of_some _ e, turn_list a _, ⟨_, Heap.get?_push_size _ rfl, rfl, rfl⟩, fun b hb => ?_, p g1 rfl e1 st ok1 _ L hL (itl_ok s1' s2 s3 s4)⟩
    have e : b = s1.heap.objs.size := by simpa using hb
    subst e
    exact I1.fpOk (Nat.le_refl _) (I1.hok.fresh (Nat.le_refl _))
  · rename_i ds hv
    obtain ⟨a, vs, rfl, q, t⟩ := dw_tup (rr.dw ok1 hv)
    cases r
    obtain ⟨its, rv', pl, hz⟩ := I1.tuple q
    refine wpAny_pyIter_tuple (show s1.heap.IsTuple a its.toArray from pl) ?_
    refine ⟨s1.heap.objs.size, [s1.heap.objs.size], _, _, g1.H, rfl, by rw [← e1]; exact I1.kept (t' := s1.toks) fun b o e => Heap.get?_push_of_some _ e, turn_tuple a _, ⟨_, Heap.get?_push_size _ rfl, rfl, rfl⟩, fun b hb => ?_, p g1 rfl e1 st ok1 _ _ (fun _ z => z.elim) (itt_ok q t)⟩
    have e : b = s1.heap.objs.size := by simpa using hb
    subst e
    exact I1.fpOk (Nat.le_refl _) (I1.hok.fresh (Nat.le_refl _))
  · exact p.elim
/-! ### range -/
def rangeD (lo : Int) (n : Nat) : List PyData := (List.range n).map fun i => .int (lo + (i : Nat))
theorem itr_ok {K : PySem.W.Frag} {lo : Int} {n : Nat} {A : AS} {H : Hp} : ItOk K (fun _ => False) (Itr lo n) (rangeD lo n) A H := by
  refine ⟨fun _ _ => True, trivial, fun _ _ _ _ _ _ _ _ _ => trivial, fun _ _ _ _ z => z.elim, fun A H _ => ⟨fun i x0 e => ?_, ?_⟩⟩
  · unfold rangeD at e
    rw [List.getElem?_map] at e
    cases hr : (List.range n)[i]? with
    | none => rw [hr] at e; cases e
    | some j =>
      rw [hr] at e; cases e
      have hi : i < n := by
        have := (List.getElem?_eq_some_iff.mp hr).1
        simpa using this
      have hj : j = i := by
        rw [List.getElem?_range hi] at hr; cases hr; rfl
      subst hj
      refine ⟨hi, fun x H' y => ?_⟩
      obtain ⟨rfl, rfl⟩ := y
      exact ⟨fun O => .refl _ _ _, by simp only [Dv]⟩
  · show n ≤ (rangeD lo n).length
    unfold rangeD; simp
def rngG (j : Int) : Prop := -(2 ^ 62) ≤ j ∧ j < 2 ^ 62
instance (j : Int) : Decidable (rngG j) := by unfold rngG; exact inferInstance
def fRng1 (f : EFs) : IF := fun env => (f env).bind fun p => match views p.1 p.2 with
  | some [.int j] => if rngG j then .ok ((rangeD 0 j.toNat, []), p.2) else .fail
  | _ => .fail
def fRng2 (f : EFs) : IF := fun env => (f env).bind fun p => match views p.1 p.2 with
  | some [.int i, .int j] => if rngG i ∧ rngG j then .ok ((rangeD i (j - i).toNat, []), p.2) else .fail
  | _ => .fail
theorem fi_range1 {X : Cx} {tg a : Expr} {f : EFs} {p pos : Pos} (hg : Gl X "range") (hm : X.mg "range" = none) (ha : FPs X [a] f) (hs : starEach [a] X.env = [(false, eval a X.env)] := by rfl) : FI X tg (.Call (.Name "range" p) [a] [] pos) (fRng1 f) := by
  refine ⟨fun W tk => ⟨fun pins s σ H R I hq => ?_⟩⟩
  obtain ⟨g, rfl, rfl, ok, o⟩ := hq
  refine (pi_range1 hg hm (ha.pa W tk) hs).run pins s g.st g.H R I ⟨g, rfl, rfl, ok, o.bind0.imp fun g1 rs st e ok1 p vs rr => ?_⟩
  split at p
  · rename_i j hv
    obtain ⟨v, rfl, hx⟩ := dws1 (rr.dws ok1 hv)
    obtain rfl := dw_int hx
    split at p
    · rename_i hr
      exact ⟨j, rfl, hr.1, hr.2, p g1 rfl e st ok1 _ _ (fun _ z => z.elim) itr_ok⟩
    · exact p.elim
  · exact p.elim
theorem fi_range2 {X : Cx} {tg a b : Expr} {f : EFs} {p pos : Pos} (hg : Gl X "range") (hm : X.mg "range" = none) (ha : FPs X [a, b] f) (hs : starEach [a, b] X.env = [(false, eval a X.env), (false, eval b X.env)] := by rfl) (hs2 : starEach [b] X.env = [(false, eval b X.env)] := by rfl) : FI X tg (.Call (.Name "range" p) [a, b] [] pos) (fRng2 f) := by
  refine ⟨fun W tk => ⟨fun pins s σ H R I hq => ?_⟩⟩
  obtain ⟨g, rfl, rfl, ok, o⟩ := hq
  refine (pi_range2 hg hm (ha.pa W tk) hs hs2).run pins s g.st g.H R I ⟨g, rfl, rfl, ok, o.bind0.imp fun g1 rs st e ok1 p vs rr => ?_⟩
  split at p
  · rename_i i j hv
    obtain ⟨v, w, rfl, hx, hy⟩ := dws2 (rr.dws ok1 hv)
    obtain rfl := dw_int hx
    obtain rfl := dw_int hy
    split at p
    · rename_i hr
      exact ⟨i, j, rfl, ⟨hr.1.1, hr.1.2, hr.2.1, hr.2.2⟩, p g1 rfl e st ok1 _ _ (fun _ z => z.elim) itr_ok⟩
    · exact p.elim
  · exact p.elim

/-! ### targets -/
abbrev BF := PyData → SE → Option SE
/-- a slot takes a value, unless another's object stands there -/
def setS (env : SE) (i : Nat) (mv : MV) : Option SE := match env[i]? with
  | some (some (.cell .bor _)) => none
  | some (some (.cell .lock _)) => none
  | some _ => some (env.set i (some mv))
  | none => none
def bName (i : Nat) : BF := fun x env => setS env i (.d x)
/-- .. the state behind it -/
theorem set_data {K : PySem.W.Frag} {g : G} {i : Nat} {x : PyData} {v : V} {env' : SE} (ok : g.Ok K) (d : Dv K g.A g.H x v) (h : setS g.env i (.d x) = some env') :
    Stp g { g with st := g.st.set i (some v), env := env' } ∧ ({ g with st := g.st.set i (some v), env := env' } : G).Ok K := by
  unfold setS at h
  have core : ∀ o, g.env[i]? = some o → (∀ c, o ≠ some (.cell .bor c)) → (∀ c, o ≠ some (.cell .lock c)) → env' = g.env.set i (some (.d x)) → Stp g { g with st := g.st.set i (some v), env := env' } ∧ ({ g with st := g.st.set i (some v), env := env' } : G).Ok K := by
    intro o hi nb nl e
    subst e
    have hil : i < g.env.length := (List.getElem?_eq_some_iff.mp hi).1
    have his : i < g.st.length := by rw [ok.len]; exact hil
    have stn : ∀ j, j ≠ i → (g.st.set i (some v))[j]? = g.st[j]? := fun j e => List.getElem?_set_ne (Ne.symm e)
    have get : ∀ {j : Nat} {mv : MV}, (g.env.set i (some (.d x)))[j]? = some (some mv) → (j ≠ i ∧ g.env[j]? = some (some mv)) ∨ (j = i ∧ mv = .d x) := fun {j mv} h => by
      by_cases e : j = i
      · subst e
        rw [List.getElem?_set_self hil] at h
        simp only [Option.some.injEq] at h
        exact .inr ⟨rfl, h.symm⟩
      · rw [List.getElem?_set_ne (Ne.symm e)] at h
        exact .inl ⟨e, h⟩
    have cl : ∀ {j : Nat} {m c}, (g.env.set i (some (.d x)))[j]? = some (some (.cell m c)) → j ≠ i ∧ g.env[j]? = some (some (.cell m c)) := fun {j m c} h => by
      rcases get h with h | ⟨_, h⟩
      · exact h
      · cases h
    refine ⟨⟨.refl _ _ _, fun a ha => ?_, fun a ha => ?_, fun j c hj => ?_, fun j c hj => ?_⟩, ⟨by simpa using ok.len, fun j y hj => ?_, fun j m c hj => ?_, fun j k m c m' c' a hj hk e1 e2 => ?_, ok.dom⟩⟩
    · rcases own_set stn ha with q | ⟨m, c, q, _⟩
      · exact .inl q
      · cases q
    · rcases has_set stn ha with q | ⟨m, c, q, _⟩
      · exact .inl q
      · cases q
    · have : j ≠ i := by rintro rfl; rw [hi] at hj; exact nb c (Option.some.inj hj)
      exact ⟨stn j this, c, by show (g.env.set i _)[j]? = _; rw [List.getElem?_set_ne (Ne.symm this)]; exact hj⟩
    · have : j ≠ i := by rintro rfl; rw [hi] at hj; exact nl c (Option.some.inj hj)
      exact ⟨stn j this, by show (g.env.set i _)[j]? = _; rw [List.getElem?_set_ne (Ne.symm this)]; exact hj⟩
    · rcases get hj with ⟨e, hj⟩ | ⟨e, hj⟩
      · show ∃ w, (g.st.set i (some v))[j]? = _ ∧ _
        rw [stn j e]; exact ok.dat j y hj
      · cases hj; subst e
        exact ⟨v, by show (g.st.set j (some v))[j]? = _; rw [List.getElem?_set_self his], d⟩
    · obtain ⟨e, hj⟩ := cl hj
      show ∃ w, (g.st.set i (some v))[j]? = _ ∧ _
      rw [stn j e]; exact ok.cel j m c hj
    · obtain ⟨n1, hj⟩ := cl hj
      obtain ⟨n2, hk⟩ := cl hk
      have e1 : (g.st.set i (some v))[j]? = _ := e1
      have e2 : (g.st.set i (some v))[k]? = _ := e2
      rw [stn j n1] at e1
      rw [stn k n2] at e2
      exact ok.dis j k m c m' c' a hj hk e1 e2
  split at h
  · cases h
  · cases h
  · rename_i o nb nl hi
    cases h
    exact core o hi (fun c z => nb c z) (fun c z => nl c z) rfl
  · cases h
/-- the slots off vs stay -/
def Off (vs : List Nat) (g g' : G) : Prop := g'.st.length = g.st.length ∧ g'.env.length = g.env.length ∧ ∀ j, j ∉ vs → g'.st[j]? = g.st[j]? ∧ g'.env[j]? = g.env[j]?
theorem Off.trans {vs ws : List Nat} {g g1 g2 : G} (a : Off vs g g1) (b : Off ws g1 g2) : Off (vs ++ ws) g g2 :=
  ⟨b.1.trans a.1, b.2.1.trans a.2.1, fun j hj => by
    simp only [List.mem_append, not_or] at hj
    exact ⟨(b.2.2 j hj.2).1.trans (a.2.2 j hj.1).1, (b.2.2 j hj.2).2.trans (a.2.2 j hj.1).2⟩⟩
def tBd (X : Cx) (vs : List Nat) (b : BF) : TG := fun v σ H Q => ∃ (g : G) (x : PyData) (env' : SE), g.st = σ ∧ g.H = H ∧ g.Ok X.K ∧ Dv X.K g.A g.H x v ∧ b x g.env = some env' ∧ ∀ g' : G, g'.env = env' → g'.A = g.A → Off vs g g' → Stp g g' → g'.Ok X.K → g'.H = g.H → Q g'.st g'.H
structure FG (X : Cx) (tg : Expr) (vs : List Nat) (b : BF) : Prop where
  pg : PG X tg (tBd X vs b)
abbrev BFs := List PyData → SE → Option SE
def tBds (X : Cx) (vs : List Nat) (b : BFs) : TGs := fun v σ H Q => ∃ (g : G) (x : List PyData) (env' : SE), g.st = σ ∧ g.H = H ∧ g.Ok X.K ∧ Dvs X.K g.A g.H x v ∧ b x g.env = some env' ∧ ∀ g' : G, g'.env = env' → g'.A = g.A → Off vs g g' → Stp g g' → g'.Ok X.K → g'.H = g.H → Q g'.st g'.H
structure FGs (X : Cx) (ts : List Expr) (vs : List Nat) (b : BFs) : Prop where
  pgs : PGs X ts (tBds X vs b)
theorem setS_len {env env' : SE} {i : Nat} {mv : MV} (h : setS env i mv = some env') : env'.length = env.length ∧ ∀ j, j ≠ i → env'[j]? = env[j]? := by
  unfold setS at h
  split at h
  · cases h
  · cases h
  · cases h; exact ⟨by simp, fun j e => List.getElem?_set_ne (Ne.symm e)⟩
  · cases h
theorem fg_name {X : Cx} {x : Str} {i : Nat} {pos : Pos} (hN : X.N.Nodup) (hi : X.N[i]? = some x) (hx : Loc X.env.scope x) (hf : X.fn x = true ∨ X.env.scope.names.lookup x = some .local := by first | exact .inl rfl | exact .inr rfl | assumption) : FG X (.Name x pos) [i] (bName i) := by
  refine ⟨⟨fun pins s σ H v u Q I r h => ?_⟩⟩
  obtain ⟨g, y, env', rfl, rfl, ok, d, hb, hQ⟩ := h
  obtain ⟨s1, o1⟩ := set_data ok d hb
  obtain ⟨l1, l2⟩ := setS_len hb
  refine (pg_name hN hi hx hf).run pins s g.st g.H v u Q I r ?_
  exact hQ { g with st := g.st.set i (some v), env := env' } rfl rfl ⟨by simp, l1, fun j hj => ⟨List.getElem?_set_ne (by simp at hj; exact fun e => hj e.symm), l2 j (by simpa using hj)⟩⟩ s1 o1 rfl
def bNil : BFs := fun xs env => match xs with
  | [] => some env
  | _ => none
def bCons (b : BF) (t : BFs) : BFs := fun xs env => match xs with
  | x :: r => match b x env with
    | some env1 => t r env1
    | none => none
  | [] => none
def bTup (t : BFs) : BF := fun x env => match x with
  | .tuple ds => t ds env
  | _ => none
theorem fgs_nil {X : Cx} : FGs X [] [] bNil := ⟨⟨fun pins s σ H vs us Q I r h => by
  obtain ⟨g, xs, env', rfl, rfl, ok, d, hb, hQ⟩ := h
  cases xs with
  | nil =>
    cases hb
    simp only [Dvs] at d
    subst d
    exact pgs_nil.run pins s g.st g.H [] us Q I r ⟨rfl, hQ g rfl rfl ⟨rfl, rfl, fun _ _ => ⟨rfl, rfl⟩⟩ (.refl g) ok rfl⟩
  | cons x r => cases hb⟩⟩
theorem fgs_cons {X : Cx} {e : Expr} {es : List Expr} {vs ws : List Nat} {b : BF} {t : BFs} (h : FG X e vs b) (ht : FGs X es ws t) (hs : (assignEach (e :: es) X.env).map (·.2) = assign e X.env :: (assignEach es X.env).map (·.2) := by rfl) : FGs X (e :: es) (vs ++ ws) (bCons b t) := ⟨⟨fun pins s σ H vls us Q I r hh => by
  obtain ⟨g, xs, env', rfl, rfl, ok, d, hb, hQ⟩ := hh
  cases xs with
  | nil => cases hb
  | cons x xr =>
    simp only [Dvs] at d
    obtain ⟨v, vr, rfl, d1, d2⟩ := d
    simp only [bCons] at hb
    cases h1 : b x g.env with
    | none => rw [h1] at hb; cases hb
    | some env1 =>
      rw [h1] at hb
      refine (pgs_cons h.pg ht.pgs hs).run pins s g.st g.H (v :: vr) us Q I r ⟨v, vr, rfl, g, x, env1, rfl, rfl, ok, d1, h1, fun g1 e1 e2 f1 s1 o1 e3 => ?_⟩
      refine ⟨g1, xr, env', rfl, rfl, o1, s1.dvs ok d2, by rw [e1]; exact hb, fun g2 e4 e5 f2 s2 o2 e6 => ?_⟩
      exact hQ g2 e4 (e5.trans e2) (f1.trans f2) (s1.trans ok s2) o2 (e6.trans e3)⟩⟩
theorem fg_tup {X : Cx} {es : List Expr} {k : Nat} {vs : List Nat} {t : BFs} {pos : Pos} (hc : X.calm = true) (h : FGs X es vs t) (n : Nat) (hlen : ∀ ds env env', t ds env = some env' → ds.length = n)
    (hn : (assignEach es X.env).length = n := by rfl) (hst : (assignEach es X.env).findIdx? (·.1) = none := by rfl) : FG X (.Tuple es k pos) vs (bTup t) := ⟨⟨fun pins s σ H v u Q I r hh => by
  obtain ⟨g, x, env', rfl, rfl, ok, d, hb, hQ⟩ := hh
  cases x with
  | tuple ds =>
    simp only [Dv] at d
    obtain ⟨a, ws, rfl, q, d⟩ := d
    simp only [bTup] at hb
    refine (pg_tup hc h.pgs hn hst).run pins s g.st g.H (.ref a) u Q I r ⟨a, ws, rfl, q, by rw [← d.length]; exact hlen _ _ _ hb, g, ds, env', rfl, rfl, ok, d, hb, hQ⟩
  | _ => cases hb⟩⟩
theorem bCons_len {b : BF} {t : BFs} {n : Nat} (ht : ∀ ds env env', t ds env = some env' → ds.length = n) : ∀ ds env env', bCons b t ds env = some env' → ds.length = n + 1 := by
  intro ds env env' h
  cases ds with
  | nil => cases h
  | cons x r =>
    simp only [bCons] at h
    split at h
    · simp [ht _ _ _ h]
    · cases h
theorem bNil_len : ∀ ds env env', bNil ds env = some env' → ds.length = 0 := by
  intro ds env env' h
  cases ds with
  | nil => rfl
  | cons x r => cases h

/-! ### statements -/
inductive Ret where
  | d (x : PyData)
  | tmp (c : Cell)
inductive Fl where
  | nx | bk | ct
  | rt (r : Ret)
def Bor (g : G) : AS := fun a => ∃ (i : Nat) (c : Cell), g.env[i]? = some (some (.cell .bor c)) ∧ g.st[i]? = some (some (.ref a))
/-- what a def hands back, begun at H0 -/
def RetR (K : PySem.W.Frag) (H0 : Hp) (g : G) : Ret → V → Prop
  | .d x, v => Dv K g.A g.H x v
  | .tmp c, v => ∃ a, v = .ref a ∧ g.A a ∧ CellR K g.A g.H c a ∧ (H0 a = none ∨ (Own g a ∧ ¬ Bor g a))
abbrev SF := SE → Res (Fl × SE)
def OutS (X : Cx) (W : WX) (g : G) (r : Res (Fl × SE)) (D : Ends) : Prop :=
  match r with
  | .ok (.nx, env') => ∀ g' : G, g'.env = env' → Stp g g' → g'.Ok X.K → D.nx g'.st g'.H
  | .ok (.bk, env') => ∀ g' : G, g'.env = env' → Stp g g' → g'.Ok X.K → D.bk g'.st g'.H
  | .ok (.ct, env') => ∀ g' : G, g'.env = env' → Stp g g' → g'.Ok X.K → D.ct g'.st g'.H
  | .ok (.rt r, env') => ∀ (g' : G) v, g'.env = env' → Stp g g' → g'.Ok X.K → RetR X.K g.H g' r v → D.rt v g'.H
  | .exc c fs env' => ∀ (g' : G) cls d, g'.env = env' → Stp g g' → g'.Ok X.K → ExcR X g' c fs cls d → W cls d g'.st g'.H
  | .fail => False
def tS (X : Cx) (W : WX) (f : SF) : TS := fun D σ H => ∃ g : G, g.st = σ ∧ g.H = H ∧ g.Ok X.K ∧ OutS X W g (f g.env) D
structure FS (X : Cx) (st : Stmt) (f : SF) : Prop where
  ps : ∀ W, Takes X W → PassesOwn (model X.prog X.w) X.A X.env X.xe → PS X st (tS X W f)
structure FSs (X : Cx) (st : List Stmt) (f : SF) : Prop where
  pss : ∀ W, Takes X W → PassesOwn (model X.prog X.w) X.A X.env X.xe → PSs X st (tS X W f)
theorem RetR.old {K : PySem.W.Frag} {H0 H1 : Hp} {g : G} {r : Ret} {v : V} (d : ∀ a, H0 a ≠ none → H1 a ≠ none) (h : RetR K H1 g r v) : RetR K H0 g r v := by
  cases r with
  | d x => exact h
  | tmp c =>
    obtain ⟨a, h1, h2, h3, h4⟩ := h
    exact ⟨a, h1, h2, h3, h4.imp (fun z => none_of_dom d z) id⟩
/-- seen from a later state -/
theorem OutS.rebase {X : Cx} {W : WX} {g g1 : G} {r : Res (Fl × SE)} {D : Ends} (ok : g.Ok X.K) (s : Stp g g1) (h : OutS X W g r D) : OutS X W g1 r D := by
  cases r with
  | ok y =>
    obtain ⟨x, env'⟩ := y
    cases x with
    | nx => exact fun g2 e1 s2 o2 => h g2 e1 (s.trans ok s2) o2
    | bk => exact fun g2 e1 s2 o2 => h g2 e1 (s.trans ok s2) o2
    | ct => exact fun g2 e1 s2 o2 => h g2 e1 (s.trans ok s2) o2
    | rt r => exact fun g2 v e1 s2 o2 rr => h g2 v e1 (s.trans ok s2) o2 (rr.old s.ext.dom)
  | exc c fs env' => exact fun g2 cls d e1 s2 o2 x2 => h g2 cls d e1 (s.trans ok s2) o2 x2
  | fail => exact h
/-- an expression ahead of a statement's rest -/
theorem OutS.bindE {α : Type} {X : Cx} {W : WX} {g : G} {r : Res (α × SE)} {k : α × SE → Res (Fl × SE)} {D : Ends} (h : OutS X W g (r.bind k) D) : Out X W g r fun g1 x => OutS X W g (k (x, g1.env)) D := by
  cases r with
  | ok y =>
    obtain ⟨x, env'⟩ := y
    intro g1 e1 e2 s1 o1
    rw [e1]
    exact h
  | exc c fs env' => exact fun g2 cls d e1 e2 s2 o2 x2 => by rw [← e2]; exact h g2 cls d e1 s2 o2 x2
  | fail => exact h
def fSeqS (f t : SF) : SF := fun env => (f env).bind fun p => match p.1 with
  | .nx => t p.2
  | _ => .ok p
def fNextS : SF := fun env => .ok (.nx, env)
theorem fss_nil {X : Cx} : FSs X [] fNextS := ⟨fun W tk hp => ⟨fun pins s σ H D I hq => by
  obtain ⟨g, rfl, rfl, ok, o⟩ := hq
  exact pss_nil.run pins s g.st g.H D I (o g rfl (.refl g) ok)⟩⟩
theorem fss_one {X : Cx} {st : Stmt} {f : SF} (h : FS X st f) : FSs X [st] f := ⟨fun W tk hp => pss_one (h.ps W tk hp)⟩
theorem fss_cons {X : Cx} {st : Stmt} {rest : List Stmt} {f t : SF} (h : FS X st f) (ht : FSs X rest t) : FSs X (st :: rest) (fSeqS f t) := by
  refine ⟨fun W tk hp => ⟨fun pins s σ H D I hq => ?_⟩⟩
  obtain ⟨g, rfl, rfl, ok, o⟩ := hq
  refine (pss_cons (h.ps W tk hp) (ht.pss W tk hp)).run pins s g.st g.H D I ⟨g, rfl, rfl, ok, ?_⟩
  unfold fSeqS at o
  cases hf : f g.env with
  | ok y =>
    rw [hf] at o
    obtain ⟨x, env'⟩ := y
    cases x with
    | nx =>
      intro g1 e1 s1 o1
      refine ⟨g1, rfl, rfl, o1, ?_⟩
      rw [e1]
      exact OutS.rebase ok s1 o
    | bk => exact o
    | ct => exact o
    | rt r => exact o
  | exc c fs env' => rw [hf] at o; exact o
  | fail => rw [hf] at o; exact o
def fIfS (c : TF) (a b : SF) : SF := fun env => (c env).bind fun p => if p.1 = true then a p.2 else b p.2
theorem fs_if {X : Cx} {c : Expr} {a b : List Stmt} {fc : TF} {fa fb : SF} {pos : Pos} (hc : FT X c fc) (ha : FSs X a fa) (hb : FSs X b fb) : FS X (.If c a b pos) (fIfS fc fa fb) := by
  refine ⟨fun W tk hp => ⟨fun pins s σ H D I hq => ?_⟩⟩
  obtain ⟨g, rfl, rfl, ok, o⟩ := hq
  refine (ps_if (hc.pt W tk) (ha.pss W tk hp) (hb.pss W tk hp)).run pins s g.st g.H D I ⟨g, rfl, rfl, ok, (OutS.bindE o).imp fun g1 b st e o1 p => ?_⟩
  cases b with
  | true => exact ⟨g1, e, rfl, o1, OutS.rebase ok st p⟩
  | false => exact ⟨g1, e, rfl, o1, OutS.rebase ok st p⟩
def fRet (f : EF) : SF := fun env => (f env).bind fun p => match p.1 with
  | .d x => .ok (.rt (.d x), p.2)
  | .tmp c => .ok (.rt (.tmp c), p.2)
  | .slot i => match p.2[i]? with
    | some (some (.d x)) => .ok (.rt (.d x), p.2)
    | some (some (.cell .own c)) => .ok (.rt (.tmp c), p.2)
    | _ => .fail
theorem fs_ret {X : Cx} {e : Expr} {f : EF} {pos : Pos} (h : FE X e f) : FS X (.Return (some e) pos) (fRet f) := by
  refine ⟨fun W tk hp => ⟨fun pins s σ H D I hq => ?_⟩⟩
  obtain ⟨g, rfl, rfl, ok, o⟩ := hq
  refine (ps_ret (h.pe W tk)).run pins s g.st g.H D I ⟨g, rfl, rfl, ok, (OutS.bindE o).imp fun g1 rv st e o1 p v rr => ?_⟩
  cases rv with
  | d x => exact p g1 v rfl st o1 rr
  | tmp c =>
    obtain ⟨a, h1, h2, h3, h4, _⟩ := rr
    exact p g1 v rfl st o1 ⟨a, h1, h2, h3, .inl h4⟩
  | slot i =>
    have h1 : g1.st[i]? = some (some v) := rr
    simp only at p
    split at p
    · rename_i x hi
      obtain ⟨w, q1, q2⟩ := o1.dat i x hi
      rw [h1] at q1; cases q1
      exact p g1 _ rfl st o1 q2
    · rename_i c hi
      obtain ⟨a, q1, q2, q3⟩ := o1.cel i _ c hi
      have q1' := q1
      rw [h1] at q1; cases q1
      refine p g1 _ rfl st o1 ⟨a, rfl, q2, q3, .inr ⟨⟨i, .own, c, hi, by simp, q1'⟩, fun ⟨j, c', z1, z2⟩ => ?_⟩⟩
      have := o1.dis j i _ _ _ _ a z1 hi z2 q1'
      subst this
      rw [hi] at z1; cases z1
    · exact p.elim
def fExpr (f : EF) : SF := fun env => (f env).bind fun p => .ok (.nx, p.2)
theorem fs_expr {X : Cx} {e : Expr} {f : EF} {pos : Pos} (h : FE X e f) (hs : swapsWith e none pos.line X.env = pure false := by rfl) : FS X (.Expr e pos) (fExpr f) := by
  refine ⟨fun W tk hp => ⟨fun pins s σ H D I hq => ?_⟩⟩
  obtain ⟨g, rfl, rfl, ok, o⟩ := hq
  exact (ps_expr (h.pe W tk) hs).run pins s g.st g.H D I ⟨g, rfl, rfl, ok, (OutS.bindE o).imp fun g1 rv st e o1 p v rr => by rw [← e]; exact p g1 rfl st o1⟩
theorem fs_pass {X : Cx} {pos : Pos} : FS X (.Pass pos) fNextS := ⟨fun W tk hp => ⟨fun pins s σ H D I hq => by
  obtain ⟨g, rfl, rfl, ok, o⟩ := hq
  exact ps_pass.run pins s g.st g.H D I (o g rfl (.refl g) ok)⟩⟩
def fBrk : SF := fun env => .ok (.bk, env)
def fCnt : SF := fun env => .ok (.ct, env)
theorem fs_brk {X : Cx} {pos : Pos} : FS X (.Break pos) fBrk := ⟨fun W tk hp => ⟨fun pins s σ H D I hq => by
  obtain ⟨g, rfl, rfl, ok, o⟩ := hq
  exact ps_break.run pins s g.st g.H D I (o g rfl (.refl g) ok)⟩⟩
theorem fs_cnt {X : Cx} {pos : Pos} : FS X (.Continue pos) fCnt := ⟨fun W tk hp => ⟨fun pins s σ H D I hq => by
  obtain ⟨g, rfl, rfl, ok, o⟩ := hq
  exact ps_continue.run pins s g.st g.H D I (o g rfl (.refl g) ok)⟩⟩
/-- code that is never come to -/
def fNever : SF := fun _ => .fail
theorem fs_never {X : Cx} {st : Stmt} : FS X st fNever := ⟨fun W tk hp => ⟨fun pins s σ H D I hq => by
  obtain ⟨g, rfl, rfl, ok, o⟩ := hq
  exact o.elim⟩⟩
end BH

set_option maxRecDepth 100000
set_option maxHeartbeats 2000000
namespace BH
open PySem PySem.Spec PyProof.Rows L2

/-! ### a result goes into a slot -/
/-- a name's own object becomes data ahead of a second name for it -/
def RV.norm : RV → SE → Option (RV × SE)
  | .d x, env => some (.d x, env)
  | .tmp c, env => some (.tmp c, env)
  | .slot i, env => match (RV.slot i).take env with
    | some (x, env') => some (.d x, env')
    | none => none
def RV.mv : RV → Option MV
  | .d x => some (.d x)
  | .tmp c => some (.cell .own c)
  | .slot _ => none
def asg (r : RV) (env : SE) (i : Nat) : Option SE := match r.norm env with
  | some (r', env') => match r'.mv with
    | some mv => setS env' i mv
    | none => none
  | none => none
section
variable {K : PySem.W.Frag}
theorem RVR.norm {H0 : Hp} {g : G} {r r' : RV} {v : V} {env' : SE} (ok : g.Ok K) (h : RVR K H0 g r v) (e : r.norm g.env = some (r', env')) :
    ∃ g' : G, g'.env = env' ∧ g'.st = g.st ∧ g'.H = g.H ∧ Stp g g' ∧ g'.Ok K ∧ RVR K H0 g' r' v ∧ (∀ i, r' ≠ .slot i) := by
  cases r with
  | d x => cases e; exact ⟨g, rfl, rfl, rfl, .refl g, ok, h, fun _ z => by cases z⟩
  | tmp c => cases e; exact ⟨g, rfl, rfl, rfl, .refl g, ok, h, fun _ z => by cases z⟩
  | slot i =>
    simp only [RV.norm] at e
    cases ht : (RV.slot i).take g.env with
    | none => rw [ht] at e; cases e
    | some q =>
      obtain ⟨x, env2⟩ := q
      rw [ht] at e
      cases e
      obtain ⟨g2, k1, k2, k3, k4, k5, k6⟩ := RVR.take (g := g) ok (.refl g) rfl ok (r := .slot i) h ht
      exact ⟨g2, k1, k2, k3, k4, k5, k6, fun _ z => by cases z⟩
/-- a new object of ours goes into a slot -/
theorem set_cell {g : G} {i : Nat} {c : Cell} {a : Addr} {env' : SE} (ok : g.Ok K) (hA : g.A a) (hc : CellR K g.A g.H c a) (hn : ¬ Has g a) (h : setS g.env i (.cell .own c) = some env') :
    ({ g with st := g.st.set i (some (.ref a)), env := env' } : G).Ok K ∧ (∀ b, Own { g with st := g.st.set i (some (.ref a)), env := env' } b → Own g b ∨ b = a) ∧ (∀ b, Has { g with st := g.st.set i (some (.ref a)), env := env' } b → Has g b ∨ b = a) ∧
      (∀ (j : Nat) c', g.env[j]? = some (some (.cell .bor c')) → (g.st.set i (some (V.ref a)))[j]? = g.st[j]? ∧ env'[j]? = some (some (.cell .bor c'))) ∧
      (∀ (j : Nat) c', g.env[j]? = some (some (.cell .lock c')) → (g.st.set i (some (V.ref a)))[j]? = g.st[j]? ∧ env'[j]? = some (some (.cell .lock c'))) := by
  unfold setS at h
  have core : ∀ o, g.env[i]? = some o → (∀ c, o ≠ some (.cell .bor c)) → (∀ c, o ≠ some (.cell .lock c)) → env' = g.env.set i (some (.cell .own c)) → (
      ({ g with st := g.st.set i (some (.ref a)), env := env' } : G).Ok K ∧ (∀ b, Own { g with st := g.st.set i (some (.ref a)), env := env' } b → Own g b ∨ b = a) ∧ (∀ b, Has { g with st := g.st.set i (some (.ref a)), env := env' } b → Has g b ∨ b = a) ∧
      (∀ (j : Nat) c', g.env[j]? = some (some (.cell .bor c')) → (g.st.set i (some (V.ref a)))[j]? = g.st[j]? ∧ env'[j]? = some (some (.cell .bor c'))) ∧
      (∀ (j : Nat) c', g.env[j]? = some (some (.cell .lock c')) → (g.st.set i (some (V.ref a)))[j]? = g.st[j]? ∧ env'[j]? = some (some (.cell .lock c')))) := by
    intro o hi nb nl e
    subst e
    have hil : i < g.env.length := (List.getElem?_eq_some_iff.mp hi).1
    have his : i < g.st.length := by rw [ok.len]; exact hil
    have stn : ∀ j, j ≠ i → (g.st.set i (some (.ref a)))[j]? = g.st[j]? := fun j e => List.getElem?_set_ne (Ne.symm e)
    have sti : (g.st.set i (some (V.ref a)))[i]? = some (some (.ref a)) := List.getElem?_set_self his
    have get : ∀ {j : Nat} {mv : MV}, (g.env.set i (some (.cell .own c)))[j]? = some (some mv) → (j ≠ i ∧ g.env[j]? = some (some mv)) ∨ (j = i ∧ mv = .cell .own c) := fun {j mv} h => by
      by_cases e : j = i
      · subst e
        rw [List.getElem?_set_self hil] at h
        simp only [Option.some.injEq] at h
        exact .inr ⟨rfl, h.symm⟩
      · rw [List.getElem?_set_ne (Ne.symm e)] at h
        exact .inl ⟨e, h⟩
    have other : ∀ {j : Nat} {m c'} {b : Addr}, g.env[j]? = some (some (.cell m c')) → g.st[j]? = some (some (.ref b)) → b ≠ a := fun {j m c' b} h1 h2 z => hn ⟨j, m, c', h1, by rw [← z]; exact h2⟩
    refine ⟨⟨by simpa using ok.len, fun j y hj => ?_, fun j m c1 hj => ?_, fun j k m c1 m' c2 b hj hk e1 e2 => ?_, ok.dom⟩, fun b hb => ?_, fun b hb => ?_, fun j c1 hj => ?_, fun j c1 hj => ?_⟩
    · rcases get hj with ⟨e, hj⟩ | ⟨_, hj⟩
      · show ∃ w, (g.st.set i (some (V.ref a)))[j]? = _ ∧ _
        rw [stn j e]; exact ok.dat j y hj
      · cases hj
    · rcases get hj with ⟨e, hj⟩ | ⟨e, hj⟩
      · show ∃ w, (g.st.set i (some (V.ref a)))[j]? = _ ∧ _
        rw [stn j e]; exact ok.cel j m c1 hj
      · cases hj; subst e
        exact ⟨a, sti, hA, hc⟩
    · have e1 : (g.st.set i (some (V.ref a)))[j]? = _ := e1
      have e2 : (g.st.set i (some (V.ref a)))[k]? = _ := e2
      rcases get hj with ⟨n1, hj'⟩ | ⟨n1, hj'⟩ <;> rcases get hk with ⟨n2, hk'⟩ | ⟨n2, hk'⟩
      · rw [stn j n1] at e1
        rw [stn k n2] at e2
        exact ok.dis j k m c1 m' c2 b hj' hk' e1 e2
      · rw [n2, sti] at e2; cases e2
        rw [stn j n1] at e1
        exact absurd rfl (other hj' e1)
      · rw [n1, sti] at e1; cases e1
        rw [stn k n2] at e2
        exact absurd rfl (other hk' e2)
      · rw [n1, n2]
    · rcases own_set stn hb with q | ⟨m, c1, q, q2, q3⟩
      · exact .inl q
      · rw [sti] at q3; cases q3; exact .inr rfl
    · rcases has_set stn hb with q | ⟨m, c1, q, q3⟩
      · exact .inl q
      · rw [sti] at q3; cases q3; exact .inr rfl
    · have : j ≠ i := by rintro rfl; rw [hi] at hj; exact nb c1 (Option.some.inj hj)
      exact ⟨stn j this, by rw [List.getElem?_set_ne (Ne.symm this)]; exact hj⟩
    · have : j ≠ i := by rintro rfl; rw [hi] at hj; exact nl c1 (Option.some.inj hj)
      exact ⟨stn j this, by rw [List.getElem?_set_ne (Ne.symm this)]; exact hj⟩
  split at h
  · cases h
  · cases h
  · rename_i o nb nl hi
    cases h
    exact core o hi (fun c z => nb c z) (fun c z => nl c z) rfl
  · cases h
/-- .. from the state g0 on -/
theorem set_rv {g0 g : G} {i : Nat} {r : RV} {v : V} {mv : MV} {env' : SE} (ok0 : g0.Ok K) (s : Stp g0 g) (ok : g.Ok K) (h : RVR K g0.H g r v) (e : r.mv = some mv) (hs : setS g.env i mv = some env') :
    Stp g0 { g with st := g.st.set i (some v), env := env' } ∧ ({ g with st := g.st.set i (some v), env := env' } : G).Ok K := by
  cases r with
  | d x =>
    cases e
    obtain ⟨s1, o1⟩ := set_data ok h hs
    exact ⟨s.trans ok0 s1, o1⟩
  | tmp c =>
    cases e
    obtain ⟨a, rfl, hA, hc, hf, hn⟩ := h
    obtain ⟨o1, h1, h2, h3, h4⟩ := set_cell ok hA hc hn hs
    refine ⟨⟨s.ext, fun b hb => ?_, fun b hb => ?_, fun j c1 hj => ?_, fun j c1 hj => ?_⟩, o1⟩
    · rcases h1 b hb with q | q
      · exact s.own b q
      · rw [q]; exact .inr hf
    · rcases h2 b hb with q | q
      · exact s.has b q
      · rw [q]; exact .inr hf
    · obtain ⟨e1, c2, e2⟩ := s.bor j c1 hj
      obtain ⟨e3, e4⟩ := h3 j c2 e2
      exact ⟨e3.trans e1, c2, e4⟩
    · obtain ⟨e1, e2⟩ := s.lck j c1 hj
      obtain ⟨e3, e4⟩ := h4 j c1 e2
      exact ⟨e3.trans e1, e4⟩
  | slot j => cases e
theorem asg_rv {g0 g : G} {i : Nat} {r : RV} {v : V} {env' : SE} (ok0 : g0.Ok K) (s : Stp g0 g) (ok : g.Ok K) (h : RVR K g0.H g r v) (hs : asg r g.env i = some env') :
    ∃ g' : G, g'.env = env' ∧ g'.st = g.st.set i (some v) ∧ g'.H = g.H ∧ Stp g0 g' ∧ g'.Ok K := by
  unfold asg at hs
  cases hn : r.norm g.env with
  | none => rw [hn] at hs; cases hs
  | some q =>
    obtain ⟨r', env1⟩ := q
    rw [hn] at hs
    simp only at hs
    obtain ⟨g1, k1, k2, k3, k4, k5, k6, _⟩ := h.norm ok hn
    cases hm : r'.mv with
    | none => rw [hm] at hs; cases hs
    | some mv =>
      rw [hm] at hs
      simp only at hs
      rw [← k1] at hs
      obtain ⟨s1, o1⟩ := set_rv ok0 (s.trans ok0 k4) k5 k6 hm hs
      exact ⟨{ g1 with st := g1.st.set i (some v), env := env' }, rfl, by simp only [k2], k3, s1, o1⟩
/-- an own list is changed -/
theorem poke {g : G} {i : Nat} {m : Mode} {c : Cell} {a : Addr} {xs : List PyData} {vs ws : List V} (ok : g.Ok K) (hi : g.env[i]? = some (some (.cell m c))) (hm : m ≠ .lock) (hst : g.st[i]? = some (some (.ref a))) (hH : g.H a = some (.lst vs)) (hd : Dvs K g.A g.H xs ws) :
    Stp g { g with H := upd g.H a (.lst ws), env := g.env.set i (some (.cell m (.lst xs))) } ∧ ({ g with H := upd g.H a (.lst ws), env := g.env.set i (some (.cell m (.lst xs))) } : G).Ok K := by
  have own : Own g a := ⟨i, m, c, hi, hm, hst⟩
  have hA : g.A a := Own.sub ok a own
  have hil : i < g.env.length := (List.getElem?_eq_some_iff.mp hi).1
  have e : Ext (fun b => b = a) g.A g.H g.A (upd g.H a (.lst ws)) :=
    ⟨fun b o h n => by rw [upd_ne n]; exact h, fun b o h => by rw [upd_ne (fun z => by rw [z, hH] at h; cases h)]; exact h, fun b o u h => by rw [upd_ne (fun z => by rw [z, hH] at h; cases h)]; exact h,
      fun b h => by by_cases z : b = a; (rw [z, upd_same]; simp); (rw [upd_ne z]; exact h), fun b h _ => h, fun b h => .inl h⟩
  have sub : ∀ b, b = a → g.A b := fun b z => by rw [z]; exact hA
  have get : ∀ {j : Nat} {mv : MV}, (g.env.set i (some (.cell m (.lst xs))))[j]? = some (some mv) → (j ≠ i ∧ g.env[j]? = some (some mv)) ∨ (j = i ∧ mv = .cell m (.lst xs)) := fun {j mv} h => by
    by_cases e : j = i
    · subst e
      rw [List.getElem?_set_self hil] at h
      simp only [Option.some.injEq] at h
      exact .inr ⟨rfl, h.symm⟩
    · rw [List.getElem?_set_ne (Ne.symm e)] at h
      exact .inl ⟨e, h⟩
  have cl : ∀ {j : Nat} {m' c'}, (g.env.set i (some (.cell m (.lst xs))))[j]? = some (some (.cell m' c')) → ∃ c2, g.env[j]? = some (some (.cell m' c2)) := fun {j m' c'} h => by
    rcases get h with ⟨_, h⟩ | ⟨e, h⟩
    · exact ⟨_, h⟩
    · cases h; subst e; exact ⟨_, hi⟩
  refine ⟨⟨⟨fun b o h n => e.keep b o h fun z => n (by rw [z]; exact own), e.tup, e.frz, e.dom, fun b h _ => h, fun b h => .inl h⟩, fun b hb => ?_, fun b hb => ?_, fun j c1 hj => ?_, fun j c1 hj => ?_⟩, ⟨by simpa using ok.len, fun j y hj => ?_, fun j m1 c1 hj => ?_, fun j k m1 c1 m2 c2 b hj hk e1 e2 => ?_, fun b hb => e.dom b (ok.dom b hb)⟩⟩
  · obtain ⟨j, m1, c1, h1, h2, h3⟩ := hb
    obtain ⟨c2, h1⟩ := cl h1
    exact .inl ⟨j, m1, c2, h1, h2, h3⟩
  · obtain ⟨j, m1, c1, h1, h3⟩ := hb
    obtain ⟨c2, h1⟩ := cl h1
    exact .inl ⟨j, m1, c2, h1, h3⟩
  · refine ⟨rfl, ?_⟩
    by_cases z : j = i
    · subst z
      rw [hi] at hj; cases hj
      exact ⟨.lst xs, by show (g.env.set j _)[j]? = _; rw [List.getElem?_set_self hil]⟩
    · exact ⟨c1, by show (g.env.set i _)[j]? = _; rw [List.getElem?_set_ne (Ne.symm z)]; exact hj⟩
  · have : j ≠ i := by rintro rfl; rw [hi] at hj; cases hj; exact hm rfl
    exact ⟨rfl, by show (g.env.set i _)[j]? = _; rw [List.getElem?_set_ne (Ne.symm this)]; exact hj⟩
  · rcases get hj with ⟨_, hj⟩ | ⟨_, hj⟩
    · obtain ⟨v, h1, h2⟩ := ok.dat j y hj
      exact ⟨v, h1, Dv.ext e sub y v h2⟩
    · cases hj
  · rcases get hj with ⟨z, hj⟩ | ⟨z, hj⟩
    · obtain ⟨b, h1, h2, h3⟩ := ok.cel j m1 c1 hj
      have hb : b ≠ a := fun q => z (ok.dis j i _ _ _ _ a hj hi (by rw [← q]; exact h1) hst)
      refine ⟨b, h1, h2, ?_⟩
      cases c1 with
      | lst ys => obtain ⟨us, q, r⟩ := h3; exact ⟨us, e.keep _ _ q hb, Dvs.ext e sub ys us r⟩
      | _ => exact h3.elim
    · cases hj; subst z
      exact ⟨a, hst, hA, ws, upd_same, Dvs.ext e sub xs ws hd⟩
  · obtain ⟨c3, hj⟩ := cl hj
    obtain ⟨c4, hk⟩ := cl hk
    exact ok.dis j k m1 c3 m2 c4 b hj hk e1 e2
end
def fSet (i : Nat) (f : EF) : SF := fun env => (f env).bind fun p => match asg p.1 p.2 i with
  | some env' => .ok (.nx, env')
  | none => .fail
theorem set_end {X : Cx} {W : WX} {g g1 : G} {i : Nat} {rv : RV} {v : V} {D : Ends} (ok : g.Ok X.K) (st : Stp g g1) (e : g1.st = g.st) (o1 : g1.Ok X.K) (rr : RVR X.K g.H g1 rv v)
    (p : OutS X W g (match asg rv g1.env i with | some env' => .ok (.nx, env') | none => .fail) D) : D.nx (g.st.set i (some v)) g1.H := by
  cases ha : asg rv g1.env i with
  | none => rw [ha] at p; exact p.elim
  | some env' =>
    rw [ha] at p
    obtain ⟨g', k1, k2, k3, k4, k5⟩ := asg_rv ok st o1 rr ha
    have := p g' k1 k4 k5
    rw [k2, k3, e] at this
    exact this
theorem fs_set {X : Cx} {i : Nat} {x : Str} {e : Expr} {f : EF} {pos pos' : Pos} (hN : X.N.Nodup) (hi : X.N[i]? = some x) (hx : Loc X.env.scope x) (h : FE X e f) (hs : swapsWith e (some (.Name x pos')) pos.line X.env = pure false := by rfl)
    (hf : X.fn x = true ∨ X.env.scope.names.lookup x = some .local := by first | exact .inl rfl | exact .inr rfl | assumption) : FS X (.Assign [.Name x pos'] e pos) (fSet i f) := by
  refine ⟨fun W tk hp => ⟨fun pins s σ H D I hq => ?_⟩⟩
  obtain ⟨g, rfl, rfl, ok, o⟩ := hq
  exact (ps_set hN hi hx (h.pe W tk) hs hf).run pins s g.st g.H D I ⟨g, rfl, rfl, ok, (OutS.bindE o).imp fun g1 rv st e o1 p v rr => set_end ok st e o1 rr p⟩
/-- a further value is held over a store -/
theorem set_keep {K : PySem.W.Frag} {H0 : Hp} {g : G} {i : Nat} {r1 r2 : RV} {v w : V} {mv : MV} {env' : SE} (hm : r1.mv = some mv) (hs : setS g.env i mv = some env') (hr : ∀ k, r2 ≠ .slot k) (h : RVR K H0 g r2 w) (hi : i < g.st.length)
    (hne : (∃ c, r1 = .tmp c) → (∃ c, r2 = .tmp c) → w ≠ v) : RVR K H0 { g with st := g.st.set i (some v), env := env' } r2 w := by
  cases r2 with
  | d x => exact h
  | slot k => exact absurd rfl (hr k)
  | tmp c =>
    obtain ⟨a, rfl, h1, h2, h3, h4⟩ := h
    refine ⟨a, rfl, h1, h2, h3, fun z => ?_⟩
    have e : env' = g.env.set i (some mv) := by
      unfold setS at hs
      split at hs
      · cases hs
      · cases hs
      · cases hs; rfl
      · cases hs
    rw [e] at z
    rcases has_set (g := g) (fun j hj => List.getElem?_set_ne (Ne.symm hj)) z with q | ⟨m, c1, q, q2⟩
    · exact h4 q
    · cases r1 with
      | tmp c2 =>
        rw [List.getElem?_set_self hi] at q2
        exact hne ⟨_, rfl⟩ ⟨_, rfl⟩ (Option.some.inj (Option.some.inj q2)).symm
      | d x => cases hm; cases q
      | slot k => cases hm
theorem setS_lt {env env' : SE} {i : Nat} {mv : MV} (h : setS env i mv = some env') : i < env.length := by
  unfold setS at h
  split at h
  · cases h
  · cases h
  · rename_i hi; exact (List.getElem?_eq_some_iff.mp hi).1
  · cases h
/-- a, b = x, y with plain local names -/
def fPar (i j : Nat) (f : EFs) : SF := fun env => (f env).bind fun p => match p.1 with
  | [r1, r2] => match r1.norm p.2 with
    | some (r1', env1) => match r2.norm env1 with
      | some (r2', env2) => match r1'.mv, r2'.mv with
        | some m1, some m2 => match setS env2 i m1 with
          | some env3 => match setS env3 j m2 with
            | some env4 => .ok (.nx, env4)
            | none => .fail
          | none => .fail
        | _, _ => .fail
      | none => .fail
    | none => .fail
  | _ => .fail
theorem norm_tmp {r r' : RV} {env env' : SE} (h : r.norm env = some (r', env')) : (∃ c, r' = .tmp c) → ∃ c, r = .tmp c := by
  rintro ⟨c, rfl⟩
  cases r with
  | d x => cases h
  | tmp c => exact ⟨c, rfl⟩
  | slot i =>
    simp only [RV.norm] at h
    split at h
    · cases h
    · cases h
theorem fs_par {X : Cx} {i j : Nat} {x y : Str} {a b : Expr} {f : EFs} {px py pt pos : Pos} {kt k2 pt2} (hc : X.calm = true) (hN : X.N.Nodup) (hi : X.N[i]? = some x) (hj : X.N[j]? = some y) (hij : i ≠ j)
    (hx : X.env.scope.names.lookup x = some .local) (hy : X.env.scope.names.lookup y = some .local) (ha : FPs X [a, b] f)
    (hw : swappedStores [.Tuple [.Name x px, .Name y py] kt pt] (.Tuple [a, b] k2 pt2) X.env = pure (some [x, y]))
    (hs : swapsWithSole [.Tuple [.Name x px, .Name y py] kt pt] (.Tuple [a, b] k2 pt2) pos.line X.env = pure false := by rfl) : FS X (.Assign [.Tuple [.Name x px, .Name y py] kt pt] (.Tuple [a, b] k2 pt2) pos) (fPar i j f) := by
  refine ⟨fun W tk hp => ⟨fun pins s σ H D I hq => ?_⟩⟩
  obtain ⟨g, rfl, rfl, ok, o⟩ := hq
  refine (ps_par hc hN hi hj hij hx hy (ha.pa W tk) hw hs).run pins s g.st g.H D I ⟨g, rfl, rfl, ok, (OutS.bindE o).imp fun g1 rs st e o1 p vs rr => ?_⟩
  split at p
  · rename_i r1 r2 e0
    change rs = [r1, r2] at e0
    subst e0
    obtain ⟨v, t, rfl, rr1, ⟨w, t2, rfl, rr2, rfl, _⟩, ne⟩ := rr
    refine ⟨v, w, rfl, ?_⟩
    cases h1 : r1.norm g1.env with
    | none => rw [h1] at p; exact p.elim
    | some q1 =>
      obtain ⟨r1', env1⟩ := q1
      rw [h1] at p
      obtain ⟨g2, a1, a2, a3, a4, a5, a6, a7⟩ := rr1.norm o1 h1
      have rr2 := rr2.step o1 a4 a2
      simp only at p
      rw [← a1] at p
      cases h2 : r2.norm g2.env with
      | none => rw [h2] at p; exact p.elim
      | some q2 =>
        obtain ⟨r2', env2⟩ := q2
        rw [h2] at p
        obtain ⟨g3, b1, b2, b3, b4, b5, b6, b7⟩ := rr2.norm a5 h2
        have a6 := a6.step a5 b4 b2
        simp only at p
        rw [← b1] at p
        have st3 : Stp g g3 := (st.trans ok a4).trans ok b4
        split at p
        · rename_i m1 m2 hm1 hm2
          cases h3 : setS g3.env i m1 with
          | none => rw [h3] at p; exact p.elim
          | some env3 =>
            rw [h3] at p
            simp only at p
            obtain ⟨s4, o4⟩ := set_rv ok st3 b5 a6 hm1 h3
            have hil : i < g3.st.length := by rw [b5.len]; exact setS_lt h3
            have b6' := set_keep (v := v) hm1 h3 b7 b6 hil fun x1 x2 => by
              obtain ⟨c1, hc1⟩ := norm_tmp h1 x1
              obtain ⟨c2, hc2⟩ := norm_tmp h2 x2
              subst hc2
              exact (ne c1 hc1).1
            cases h4 : setS env3 j m2 with
            | none => rw [h4] at p; exact p.elim
            | some env4 =>
              rw [h4] at p
              obtain ⟨s5, o5⟩ := set_rv (g := { g3 with st := g3.st.set i (some v), env := env3 }) ok s4 o4 b6' hm2 h4
              have := p _ rfl s5 o5
              rw [← e, ← a2, ← b2, ← a3, ← b3]
              exact this
        · exact p.elim
  · exact p.elim
end BH

set_option maxRecDepth 100000
set_option maxHeartbeats 2000000
namespace BH
open PySem PySem.Spec PyProof.Rows L2

/-! ### loops -/
def fUnl (lk : List Nat) (env0 : SE) : Res (Fl × SE) → Res (Fl × SE)
  | .ok (x, e) => .ok (x, unlockAll lk env0 e)
  | .exc c fs e => .exc c fs (unlockAll lk env0 e)
  | .fail => .fail
theorem ret_unlock1 {K : PySem.W.Frag} {g g' : G} {i : Nat} {H0 : Hp} {r : Ret} {v : V} (s : Stp { g with env := lock1 g.env i } g') (ok' : g'.Ok K) (h : RetR K H0 g' r v) : RetR K H0 { g' with env := unlock1 g.env i g'.env } r v := by
  cases r with
  | d x => exact h
  | tmp c =>
    obtain ⟨a, h1, h2, h3, h4⟩ := h
    refine ⟨a, h1, h2, h3, h4.imp id fun ⟨⟨j, m, c1, q1, q2, q3⟩, nb⟩ => ?_⟩
    have same : ∀ e2, unlock1 g.env i g'.env = e2 → e2 = g'.env → Own { g' with env := unlock1 g.env i g'.env } a ∧ ¬ Bor { g' with env := unlock1 g.env i g'.env } a := fun e2 z1 z2 => by
      rw [z1, z2]; exact ⟨⟨j, m, c1, q1, q2, q3⟩, nb⟩
    cases hi : g.env[i]? with
    | none => exact same _ (by unfold unlock1; rw [hi]) rfl
    | some o => cases o with
      | none => exact same _ (by unfold unlock1; rw [hi]) rfl
      | some mv => cases mv with
        | d x => exact same _ (by unfold unlock1; rw [hi]) rfl
        | cell m0 c0 =>
          have e1 : lock1 g.env i = g.env.set i (some (.cell .lock c0)) := by unfold lock1; rw [hi]
          have e2 : unlock1 g.env i g'.env = g'.env.set i (some (.cell m0 c0)) := by unfold unlock1; rw [hi]
          have hil : i < g.env.length := (List.getElem?_eq_some_iff.mp hi).1
          have hl1 : (lock1 g.env i)[i]? = some (some (.cell .lock c0)) := by rw [e1, List.getElem?_set_self hil]
          obtain ⟨z1, z2⟩ := s.lck i c0 hl1
          rw [e2]
          have hj : j ≠ i := fun e => by subst e; rw [z2] at q1; cases q1; exact q2 rfl
          refine ⟨⟨j, m, c1, by show (g'.env.set i _)[j]? = _; rw [List.getElem?_set_ne (Ne.symm hj)]; exact q1, q2, q3⟩, fun ⟨k, c2, y1, y2⟩ => ?_⟩
          have y2 : g'.st[k]? = some (some (.ref a)) := y2
          by_cases e : k = i
          · subst e
            exact hj (ok'.dis j k _ _ _ _ a q1 z2 q3 y2)
          · have y1 : (g'.env.set i _)[k]? = _ := y1
            rw [List.getElem?_set_ne (Ne.symm e)] at y1
            exact nb ⟨k, c2, y1, y2⟩
theorem ret_unlock {K : PySem.W.Frag} {H0 : Hp} {r : Ret} {v : V} : ∀ (lk : List Nat) {g g' : G}, g.Ok K → Stp (lockG lk g) g' → g'.Ok K → RetR K H0 g' r v → RetR K H0 { g' with env := unlockAll lk g.env g'.env } r v
  | [], _, _, _, _, _, h => h
  | i :: q, g, g', ok, s, ok', h => by
    have h1 := ret_unlock q (g := { g with env := lock1 g.env i }) (g' := g') (ok_lock1 ok) s ok' h
    obtain ⟨s2, o2⟩ := unlock_all q (g := { g with env := lock1 g.env i }) (g' := g') (ok_lock1 ok) s ok'
    exact ret_unlock1 (g := g) s2 o2 h1
theorem outS_unlock {X : Cx} {W : WX} {g : G} {lk : List Nat} {r : Res (Fl × SE)} {D : Ends} (ok : g.Ok X.K) (h : OutS X W g (fUnl lk g.env r) D) : OutS X W (lockG lk g) r D := by
  cases r with
  | ok y =>
    obtain ⟨x, env'⟩ := y
    cases x with
    | nx => exact fun g2 e1 s2 o2 => by subst e1; obtain ⟨s3, o3⟩ := unlock_all lk ok s2 o2; exact h { g2 with env := unlockAll lk g.env g2.env } rfl s3 o3
    | bk => exact fun g2 e1 s2 o2 => by subst e1; obtain ⟨s3, o3⟩ := unlock_all lk ok s2 o2; exact h { g2 with env := unlockAll lk g.env g2.env } rfl s3 o3
    | ct => exact fun g2 e1 s2 o2 => by subst e1; obtain ⟨s3, o3⟩ := unlock_all lk ok s2 o2; exact h { g2 with env := unlockAll lk g.env g2.env } rfl s3 o3
    | rt r => exact fun g2 v e1 s2 o2 rr => by subst e1; obtain ⟨s3, o3⟩ := unlock_all lk ok s2 o2; exact h { g2 with env := unlockAll lk g.env g2.env } v rfl s3 o3 (ret_unlock lk ok s2 o2 rr)
  | exc c fs env' => exact fun g2 cls d e1 s2 o2 x2 => by subst e1; obtain ⟨s3, o3⟩ := unlock_all lk ok s2 o2; exact h { g2 with env := unlockAll lk g.env g2.env } cls d rfl s3 o3 x2
  | fail => exact h
def fLoop (b : BF) (body : SF) : List PyData → SE → Res (Fl × SE)
  | [], env => .ok (.nx, env)
  | x :: xs, env => match b x env with
    | none => .fail
    | some e1 => match body e1 with
      | .ok (.nx, e2) => fLoop b body xs e2
      | .ok (.ct, e2) => fLoop b body xs e2
      | .ok (.bk, e2) => .ok (.nx, e2)
      | .ok (.rt r, e2) => .ok (.rt r, e2)
      | .exc c fs e2 => .exc c fs e2
      | .fail => .fail
def fFor (fi : IF) (b : BF) (body : SF) : SF := fun env => (fi env).bind fun p => fUnl p.1.2 p.2 (fLoop b body p.1.1 (lockAll p.1.2 p.2))
theorem Stp.same {g : G} {H' : Hp} (ex : ∀ O, Ext O g.A g.H g.A H') : Stp g { g with H := H' } :=
  ⟨ex _, fun _ h => .inl h, fun _ h => .inl h, fun i c h => ⟨rfl, c, h⟩, fun i c h => ⟨rfl, h⟩⟩
theorem fs_for {X : Cx} {tg iter : Expr} {body : List Stmt} {fi : IF} {vs : List Nat} {b : BF} {fb : SF} {pos : Pos} (hc : X.calm = true) (hi : FI X tg iter fi) (hg : FG X tg vs b) (hb : FSs X body fb)
    (hs : ∀ x, foldedSetIterable iter X.env x = pure x := by first | exact fun _ => rfl | assumption) : FS X (.For tg iter body [] pos) (fFor fi b fb) := by
  refine ⟨fun W tk hp => ⟨fun pins s σ H D I hq => ?_⟩⟩
  obtain ⟨g, rfl, rfl, ok, o⟩ := hq
  refine (ps_for hp hc (hi.pi W tk) hg.pg (hb.pss W tk hp) hs).run pins s g.st g.H D I ⟨g, rfl, rfl, ok, (OutS.bindE o).imp fun g1 p st e o1 q J L hL hJ => ?_⟩
  obtain ⟨ds, lk⟩ := p
  obtain ⟨S, s0, sx, sd, sj⟩ := hJ
  have q := outS_unlock o1 (OutS.rebase ok st q)
  have oL : (lockG lk g1).Ok X.K := ok_lockAll lk o1
  refine ⟨fun i m σ H => m = ds.length - i ∧ i ≤ ds.length ∧ ∃ g2 : G, g2.st = σ ∧ g2.H = H ∧ g2.Ok X.K ∧ Stp (lockG lk g1) g2 ∧ S g2.A g2.H ∧ OutS X W g2 (fLoop b fb (ds.drop i) g2.env) D, ⟨ds.length, rfl, Nat.zero_le _, lockG lk g1, e, rfl, oL, .refl _, s0, q⟩, ?_⟩
  rintro i m σ' H' ⟨rfl, hle, g2, rfl, rfl, o2, s2, ss, oo⟩
  by_cases hlt : i < ds.length
  · obtain ⟨go, yl⟩ := (sj _ _ ss).1 i _ (List.getElem?_eq_getElem hlt)
    rw [List.drop_eq_getElem_cons hlt] at oo
    simp only [fLoop] at oo
    refine .inr ⟨go, fun σ' H' => ∃ g4 : G, g4.st = σ' ∧ g4.H = H' ∧ g4.Ok X.K ∧ Stp (lockG lk g1) g4 ∧ S g4.A g4.H ∧ OutS X W g4 (fLoop b fb (ds.drop (i + 1)) g4.env) D, ?_, ?_⟩
    · rintro σ' H' ⟨g4, h1, h2, h3, h4, h5, h6⟩
      exact ⟨ds.length - (i + 1), by omega, rfl, hlt, g4, h1, h2, h3, h4, h5, h6⟩
    · intro x H' hy
      obtain ⟨ex, dv⟩ := yl x H' hy
      have s3 : Stp g2 { g2 with H := H' } := Stp.same ex
      have o3 : ({ g2 with H := H' } : G).Ok X.K := o2.ext (ex _) (fun _ h => h) (fun a h => (ex (fun _ => False)).dom a (o2.dom a h))
      cases hb1 : b ds[i] g2.env with
      | none => rw [hb1] at oo; exact oo.elim
      | some env1 =>
        rw [hb1] at oo
        refine ⟨{ g2 with H := H' }, ds[i], env1, rfl, rfl, o3, dv, hb1, fun g4 e4 a4 f4 s4 o4 h4 => ⟨g4, rfl, rfl, o4, ?_⟩⟩
        rw [e4]
        have s24 : Stp g2 g4 := s3.trans o2 s4
        have next : ∀ g5 : G, Stp g4 g5 → g5.Ok X.K → OutS X W g2 (fLoop b fb (ds.drop (i + 1)) g5.env) D → ∃ g6 : G, g6.st = g5.st ∧ g6.H = g5.H ∧ g6.Ok X.K ∧ Stp (lockG lk g1) g6 ∧ S g6.A g6.H ∧ OutS X W g6 (fLoop b fb (ds.drop (i + 1)) g6.env) D := fun g5 s5 o5 k => by
          have s25 := s24.trans o2 s5
          refine ⟨g5, rfl, rfl, o5, s2.trans oL s25, sx (Own g2) _ _ _ _ ss s25.ext (Own.sub o2) fun a la ow => ?_, OutS.rebase o2 s25 k⟩
          rcases s2.own a ow with z | z
          · exact hL a la z
          · exact sd _ _ s0 a la z
        simp only at oo
        cases hf : fb env1 with
        | ok y =>
          rw [hf] at oo
          obtain ⟨x, env'⟩ := y
          cases x with
          | nx => exact fun g5 e5 s5 o5 => next g5 s5 o5 (by rw [e5]; exact oo)
          | ct => exact fun g5 e5 s5 o5 => next g5 s5 o5 (by rw [e5]; exact oo)
          | bk => exact fun g5 e5 s5 o5 => oo g5 e5 (s24.trans o2 s5) o5
          | rt r => exact fun g5 v e5 s5 o5 rr => oo g5 v e5 (s24.trans o2 s5) o5 (rr.old s24.ext.dom)
        | exc c fs env' => rw [hf] at oo; exact fun g5 cls d e5 s5 o5 x5 => oo g5 cls d e5 (s24.trans o2 s5) o5 x5
        | fail => rw [hf] at oo; exact oo.elim
  · have hi : i = ds.length := by omega
    subst hi
    refine .inl ⟨(sj _ _ ss).2, ?_⟩
    simp only [List.drop_length, fLoop] at oo
    exact oo g2 rfl (.refl g2) o2
/-- while, its turns counted out -/
def fWhileN (c : TF) (body : SF) : Nat → SE → Res (Fl × SE)
  | 0, _ => .fail
  | n + 1, env => match c env with
    | .ok (true, e1) => match body e1 with
      | .ok (.nx, e2) => fWhileN c body n e2
      | .ok (.ct, e2) => fWhileN c body n e2
      | .ok (.bk, e2) => .ok (.nx, e2)
      | .ok (.rt r, e2) => .ok (.rt r, e2)
      | .exc c fs e2 => .exc c fs e2
      | .fail => .fail
    | .ok (false, e1) => .ok (.nx, e1)
    | .exc c fs e2 => .exc c fs e2
    | .fail => .fail
theorem fs_while {X : Cx} {c : Expr} {body : List Stmt} {fc : TF} {fb : SF} {pos : Pos} (n : SE → Nat) (hc : FT X c fc) (hb : FSs X body fb) : FS X (.While c body [] pos) (fun env => fWhileN fc fb (n env) env) := by
  refine ⟨fun W tk hp => ⟨fun pins s σ H D I hq => ?_⟩⟩
  obtain ⟨g, rfl, rfl, ok, o⟩ := hq
  refine (ps_while hp (hc.pt W tk) (hb.pss W tk hp)).run pins s g.st g.H D I ⟨fun m σ H => ∃ g2 : G, g2.st = σ ∧ g2.H = H ∧ g2.Ok X.K ∧ Stp g g2 ∧ OutS X W g2 (fWhileN fc fb m g2.env) D, ⟨n g.env, g, rfl, rfl, ok, .refl g, o⟩, ?_⟩
  rintro m σ H ⟨g2, rfl, rfl, o2, s2, oo⟩
  cases m with
  | zero => exact oo.elim
  | succ m =>
    simp only [fWhileN] at oo
    refine ⟨g2, rfl, rfl, o2, ?_⟩
    cases hf : fc g2.env with
    | ok y =>
      rw [hf] at oo
      obtain ⟨t, env1⟩ := y
      intro g3 e3 q3 s3 o3
      cases t with
      | true =>
        simp only at oo
        refine ⟨fun σ' H' => ∃ g4 : G, g4.st = σ' ∧ g4.H = H' ∧ g4.Ok X.K ∧ Stp g g4 ∧ OutS X W g4 (fWhileN fc fb m g4.env) D, fun σ' H' z => ⟨m, Nat.lt_succ_self m, z⟩, ?_⟩
        refine ⟨g3, q3, rfl, o3, ?_⟩
        rw [e3]
        cases hb : fb env1 with
        | ok y =>
          rw [hb] at oo
          obtain ⟨x, env'⟩ := y
          cases x with
          | nx => exact fun g5 e5 s5 o5 => ⟨g5, rfl, rfl, o5, (s2.trans ok s3).trans ok s5, OutS.rebase o2 (s3.trans o2 s5) (by rw [e5]; exact oo)⟩
          | ct => exact fun g5 e5 s5 o5 => ⟨g5, rfl, rfl, o5, (s2.trans ok s3).trans ok s5, OutS.rebase o2 (s3.trans o2 s5) (by rw [e5]; exact oo)⟩
          | bk => exact fun g5 e5 s5 o5 => oo g5 e5 (s3.trans o2 s5) o5
          | rt r => exact fun g5 v e5 s5 o5 rr => oo g5 v e5 (s3.trans o2 s5) o5 (rr.old s3.ext.dom)
        | exc c fs env' => rw [hb] at oo; exact fun g5 cls d e5 s5 o5 x5 => oo g5 cls d e5 (s3.trans o2 s5) o5 x5
        | fail => rw [hb] at oo; exact oo.elim
      | false =>
        have := oo g3 e3 s3 o3
        rw [q3] at this
        exact this
    | exc c fs env' => rw [hf] at oo; exact fun g5 cls d e5 q5 s5 o5 x5 => by rw [← q5]; exact oo g5 cls d e5 s5 o5 x5
    | fail => rw [hf] at oo; exact oo.elim
end BH

set_option maxRecDepth 100000
set_option maxHeartbeats 2000000
namespace BH
open PySem PySem.Spec PyProof.Rows L2

/-! ### comprehensions -/
def wipeE (env : SE) : List Nat → SE
  | [] => env
  | v :: vs => (wipeE env vs).set v none
def noCell (env : SE) (vs : List Nat) : Bool := vs.all fun i => match env[i]? with
  | some (some (.cell _ _)) => false
  | _ => true
def restE (e0 : SE) : List Nat → SE → SE
  | [], e => e
  | v :: vs, e => match e0[v]? with
    | some o => (restE e0 vs e).set v o
    | none => restE e0 vs e
theorem wipeE_length (env : SE) : ∀ vs : List Nat, (wipeE env vs).length = env.length
  | [] => rfl
  | v :: vs => by unfold wipeE; rw [List.length_set, wipeE_length env vs]
theorem wipeE_out {env : SE} {i : Nat} : ∀ {vs : List Nat}, i ∉ vs → (wipeE env vs)[i]? = env[i]?
  | [], _ => rfl
  | v :: vs, h => by
    simp only [List.mem_cons, not_or] at h
    unfold wipeE
    rw [List.getElem?_set_ne (Ne.symm h.1), wipeE_out h.2]
theorem wipeE_some {env : SE} {i : Nat} {x : MV} : ∀ {vs : List Nat}, (wipeE env vs)[i]? = some (some x) → env[i]? = some (some x) ∧ i ∉ vs
  | [], h => ⟨h, by simp⟩
  | v :: vs, h => by
    unfold wipeE at h
    by_cases hi : v = i
    · subst hi
      rw [List.getElem?_set] at h
      simp only [if_true] at h
      split at h <;> simp at h
    · rw [List.getElem?_set_ne hi] at h
      obtain ⟨h1, h2⟩ := wipeE_some h
      exact ⟨h1, by simp only [List.mem_cons, not_or]; exact ⟨fun e => hi e.symm, h2⟩⟩
theorem restE_length (e0 e : SE) : ∀ vs : List Nat, (restE e0 vs e).length = e.length
  | [] => rfl
  | v :: vs => by unfold restE; split <;> simp [restE_length e0 e vs]
theorem restE_out {e0 e : SE} {i : Nat} : ∀ {vs : List Nat}, i ∉ vs → (restE e0 vs e)[i]? = e[i]?
  | [], _ => rfl
  | v :: vs, h => by
    simp only [List.mem_cons, not_or] at h
    unfold restE
    split
    · rw [List.getElem?_set_ne (Ne.symm h.1), restE_out h.2]
    · exact restE_out h.2
theorem restE_in {e0 e : SE} {i : Nat} (hl : e.length = e0.length) : ∀ {vs : List Nat}, i ∈ vs → (restE e0 vs e)[i]? = e0[i]?
  | [], h => by cases h
  | v :: vs, h => by
    unfold restE
    by_cases e1 : v = i
    · subst e1
      split
      · rename_i o ho
        have := (List.getElem?_eq_some_iff.mp ho).1
        rw [List.getElem?_set_self (by rw [restE_length, hl]; exact this), ho]
      · rename_i ho
        rw [ho, List.getElem?_eq_none_iff, restE_length, hl]
        exact List.getElem?_eq_none_iff.mp ho
    · have h2 : i ∈ vs := by
        rcases List.mem_cons.mp h with z | z
        · exact absurd z.symm e1
        · exact z
      split
      · rw [List.getElem?_set_ne e1, restE_in hl h2]
      · exact restE_in hl h2
theorem wipe_in {σ : L2.St} {i : Nat} : ∀ {vs : List Nat}, i ∈ vs → i < σ.length → (wipe σ vs)[i]? = some none
  | [], h, _ => by cases h
  | v :: vs, h, hl => by
    unfold wipe
    by_cases e1 : v = i
    · subst e1
      rw [List.getElem?_set_self (by rw [wipe_length]; exact hl)]
    · rw [List.getElem?_set_ne e1]
      refine wipe_in ?_ hl
      rcases List.mem_cons.mp h with z | z
      · exact absurd z.symm e1
      · exact z
theorem wipe_same {σ σ2 : L2.St} {vs : List Nat} (hl : σ2.length = σ.length) (h : ∀ j, j ∉ vs → σ2[j]? = σ[j]?) : wipe σ2 vs = wipe σ vs := by
  apply List.ext_getElem?
  intro j
  by_cases hj : j ∈ vs
  · by_cases hl2 : j < σ.length
    · rw [wipe_in hj hl2, wipe_in hj (by rw [hl]; exact hl2)]
    · rw [List.getElem?_eq_none_iff.mpr (by rw [wipe_length]; omega), List.getElem?_eq_none_iff.mpr (by rw [wipe_length]; omega)]
  · rw [wipe_out hj, wipe_out hj, h j hj]
theorem noCell_not {env : SE} {vs : List Nat} (h : noCell env vs = true) {i : Nat} (hi : i ∈ vs) {m : Mode} {c : Cell} : env[i]? ≠ some (some (.cell m c)) := fun e => by
  have := List.all_eq_true.mp h i hi
  rw [e] at this
  cases this
def wipeG (vs : List Nat) (g : G) : G := { g with st := wipe g.st vs, env := wipeE g.env vs }
section
variable {K : PySem.W.Frag} {g g' : G} {vs : List Nat}
theorem own_wipe {a : Addr} (h : Own (wipeG vs g) a) : Own g a := by
  obtain ⟨i, m, c, h1, h2, h3⟩ := h
  exact ⟨i, m, c, (wipeE_some h1).1, h2, (wipe_some h3).1⟩
theorem has_wipe {a : Addr} (h : Has (wipeG vs g) a) : Has g a := by
  obtain ⟨i, m, c, h1, h3⟩ := h
  exact ⟨i, m, c, (wipeE_some h1).1, (wipe_some h3).1⟩
theorem ok_wipe (ok : g.Ok K) : (wipeG vs g).Ok K where
  len := by show (wipe g.st vs).length = (wipeE g.env vs).length; rw [wipe_length, wipeE_length]; exact ok.len
  dat := fun i x h => by
    obtain ⟨h1, h2⟩ := wipeE_some h
    show ∃ v, (wipe g.st vs)[i]? = _ ∧ _
    rw [wipe_out h2]
    exact ok.dat i x h1
  cel := fun i m c h => by
    obtain ⟨h1, h2⟩ := wipeE_some h
    show ∃ v, (wipe g.st vs)[i]? = _ ∧ _
    rw [wipe_out h2]
    exact ok.cel i m c h1
  dis := fun i j m c m' c' a hi hj e1 e2 => ok.dis i j m c m' c' a (wipeE_some hi).1 (wipeE_some hj).1 (wipe_some e1).1 (wipe_some e2).1
  dom := ok.dom
/-- behind a turn the block's slots are as they were -/
theorem rest_step (ok : g.Ok K) (nc : noCell g.env vs = true) (s : Stp (wipeG vs g) g') (ok' : g'.Ok K) (hw : wipe g'.st vs = wipe g.st vs) :
    Stp g { g' with st := g.st, env := restE g.env vs g'.env } ∧ ({ g' with st := g.st, env := restE g.env vs g'.env } : G).Ok K ∧ ∀ a, Has { g' with st := g.st, env := restE g.env vs g'.env } a → Has g' a := by
  have hl : g'.env.length = g.env.length := by
    rw [← ok'.len, ← ok.len]
    have := congrArg List.length hw
    rw [wipe_length, wipe_length] at this
    exact this
  have get : ∀ {j : Nat} {mv : MV}, (restE g.env vs g'.env)[j]? = some (some mv) → (j ∈ vs ∧ g.env[j]? = some (some mv)) ∨ (j ∉ vs ∧ g'.env[j]? = some (some mv) ∧ g.st[j]? = g'.st[j]?) := fun {j mv} h => by
    by_cases hj : j ∈ vs
    · rw [restE_in hl hj] at h; exact .inl ⟨hj, h⟩
    · rw [restE_out hj] at h
      exact .inr ⟨hj, h, by rw [← wipe_out (σ := g.st) hj, ← hw, wipe_out hj]⟩
  have cl : ∀ {j : Nat} {m c}, (restE g.env vs g'.env)[j]? = some (some (.cell m c)) → j ∉ vs ∧ g'.env[j]? = some (some (.cell m c)) ∧ g.st[j]? = g'.st[j]? := fun {j m c} h => by
    rcases get h with ⟨h1, h2⟩ | h
    · exact absurd h2 (noCell_not nc h1)
    · exact h
  have hhas : ∀ a, Has { g' with st := g.st, env := restE g.env vs g'.env } a → Has g' a := fun a ⟨i, m, c, h1, h3⟩ => by
    obtain ⟨q1, q2, q3⟩ := cl h1
    exact ⟨i, m, c, q2, by rw [← q3]; exact h3⟩
  refine ⟨⟨⟨fun a o h n => s.ext.keep a o h fun z => n (own_wipe z), s.ext.tup, s.ext.frz, s.ext.dom, fun a h n => s.ext.av1 a h fun z => n (own_wipe z), s.ext.av2⟩, fun a h => ?_, fun a h => ?_, fun j c h => ?_, fun j c h => ?_⟩, ⟨?_, fun j x h => ?_, fun j m c h => ?_, fun i j m c m' c' a hi hj e1 e2 => ?_, ok'.dom⟩, hhas⟩
  · obtain ⟨i, m, c, h1, h2, h3⟩ := h
    obtain ⟨q1, q2, q3⟩ := cl h1
    rcases s.own a ⟨i, m, c, q2, h2, by rw [← q3]; exact h3⟩ with z | z
    · exact .inl (own_wipe z)
    · exact .inr z
  · rcases s.has a (hhas a h) with z | z
    · exact .inl (has_wipe z)
    · exact .inr z
  · have hj : j ∉ vs := fun z => noCell_not nc z h
    obtain ⟨_, c', y⟩ := s.bor j c (by show (wipeE g.env vs)[j]? = _; rw [wipeE_out hj]; exact h)
    exact ⟨rfl, c', by show (restE g.env vs g'.env)[j]? = _; rw [restE_out hj]; exact y⟩
  · have hj : j ∉ vs := fun z => noCell_not nc z h
    obtain ⟨_, y⟩ := s.lck j c (by show (wipeE g.env vs)[j]? = _; rw [wipeE_out hj]; exact h)
    exact ⟨rfl, by show (restE g.env vs g'.env)[j]? = _; rw [restE_out hj]; exact y⟩
  · show g.st.length = (restE g.env vs g'.env).length
    rw [restE_length, hl, ok.len]
  · rcases get h with ⟨h1, h2⟩ | ⟨h1, h2, h3⟩
    · obtain ⟨v, q1, q2⟩ := ok.dat j x h2
      exact ⟨v, q1, Dv.ext s.ext (fun a z => Own.sub ok a (own_wipe z)) x v q2⟩
    · obtain ⟨v, q1, q2⟩ := ok'.dat j x h2
      exact ⟨v, h3.trans q1, q2⟩
  · obtain ⟨h1, h2, h3⟩ := cl h
    obtain ⟨a, q1, q2⟩ := ok'.cel j m c h2
    exact ⟨a, h3.trans q1, q2⟩
  · obtain ⟨_, p2, p3⟩ := cl hi
    obtain ⟨_, q2, q3⟩ := cl hj
    exact ok'.dis i j m c m' c' a p2 q2 (p3.symm.trans e1) (q3.symm.trans e2)
theorem has_unlock1 {i : Nat} {a : Addr} (s : Stp { g with env := lock1 g.env i } g') (h : Has { g' with env := unlock1 g.env i g'.env } a) : Has g' a := by
  cases hi : g.env[i]? with
  | none => have e2 : unlock1 g.env i g'.env = g'.env := by unfold unlock1; rw [hi]
            rw [e2] at h; exact h
  | some o => cases o with
    | none => have e2 : unlock1 g.env i g'.env = g'.env := by unfold unlock1; rw [hi]
              rw [e2] at h; exact h
    | some mv => cases mv with
      | d x => have e2 : unlock1 g.env i g'.env = g'.env := by unfold unlock1; rw [hi]
               rw [e2] at h; exact h
      | cell m0 c0 =>
        have e1 : lock1 g.env i = g.env.set i (some (.cell .lock c0)) := by unfold lock1; rw [hi]
        have e2 : unlock1 g.env i g'.env = g'.env.set i (some (.cell m0 c0)) := by unfold unlock1; rw [hi]
        have hil : i < g.env.length := (List.getElem?_eq_some_iff.mp hi).1
        have hl1 : (lock1 g.env i)[i]? = some (some (.cell .lock c0)) := by rw [e1, List.getElem?_set_self hil]
        obtain ⟨z1, z2⟩ := s.lck i c0 hl1
        rw [e2] at h
        obtain ⟨k, m, c, y1, y2⟩ := h
        by_cases e : k = i
        · subst e; exact ⟨k, _, _, z2, y2⟩
        · have y1 : (g'.env.set i _)[k]? = _ := y1
          rw [List.getElem?_set_ne (Ne.symm e)] at y1
          exact ⟨k, m, c, y1, y2⟩
/-- a new list of ours that no slot holds is written -/
theorem bump {g0 : G} {D : Addr} {ws ws' : List V} (ok : g.Ok K) (hA : g.A D) (hn : ¬ Has g D) (hD : g.H D = some (.lst ws)) (h0 : g0.H D = none) (s : Stp g0 g) :
    Ext (fun b => b = D) g.A g.H g.A (upd g.H D (.lst ws')) ∧ Stp g0 { g with H := upd g.H D (.lst ws') } ∧ ({ g with H := upd g.H D (.lst ws') } : G).Ok K := by
  have e : Ext (fun b => b = D) g.A g.H g.A (upd g.H D (.lst ws')) :=
    ⟨fun b o h n => by rw [upd_ne n]; exact h, fun b o h => by rw [upd_ne (fun z => by rw [z, hD] at h; cases h)]; exact h, fun b o u h => by rw [upd_ne (fun z => by rw [z, hD] at h; cases h)]; exact h,
      fun b h => by by_cases z : b = D; (rw [z, upd_same]; simp); (rw [upd_ne z]; exact h), fun b h _ => h, fun b h => .inl h⟩
  have sub : ∀ b, b = D → g.A b := fun b z => by rw [z]; exact hA
  refine ⟨e, ⟨⟨fun b o h n => ?_, fun b o h => ?_, fun b o u h => ?_, fun b h => e.dom b (s.ext.dom b h), s.ext.av1, s.ext.av2⟩, s.own, s.has, s.bor, s.lck⟩, ⟨ok.len, fun j y hj => ?_, fun j m c hj => ?_, ok.dis, fun b hb => e.dom b (ok.dom b hb)⟩⟩
  · exact e.keep b o (s.ext.keep b o h n) fun z => by rw [z, h0] at h; cases h
  · exact e.tup b o (s.ext.tup b o h)
  · exact e.frz b o u (s.ext.frz b o u h)
  · obtain ⟨v, h1, h2⟩ := ok.dat j y hj
    exact ⟨v, h1, Dv.ext e sub y v h2⟩
  · obtain ⟨b, h1, h2, h3⟩ := ok.cel j m c hj
    refine ⟨b, h1, h2, ?_⟩
    cases c with
    | lst ys => obtain ⟨us, q, r⟩ := h3; exact ⟨us, e.keep _ _ q fun z => hn ⟨j, m, _, hj, by rw [← z]; exact h1⟩, Dvs.ext e sub ys us r⟩
    | _ => exact h3.elim
end
theorem has_unlock {K : PySem.W.Frag} : ∀ (lk : List Nat) {g g' : G} {a : Addr}, g.Ok K → g'.Ok K → Stp (lockG lk g) g' → Has { g' with env := unlockAll lk g.env g'.env } a → Has g' a
  | [], _, _, _, _, _, _, h => h
  | i :: q, g, g', a, ok, ok', s, h => by
    obtain ⟨s2, o2⟩ := unlock_all q (g := { g with env := lock1 g.env i }) (g' := g') (ok_lock1 ok) s ok'
    exact has_unlock q (g := { g with env := lock1 g.env i }) (ok_lock1 ok) ok' s (has_unlock1 (g := g) s2 h)
/-- the tests of a clause -/
structure FTs (X : Cx) (es : List Expr) (f : TF) : Prop where
  pts : ∀ W, Takes X W → PTs X es (tTt X W f)
def fYes : TF := fun env => .ok (true, env)
theorem fts_nil {X : Cx} : FTs X [] fYes := ⟨fun W tk => ⟨fun pins s σ H Q I hq => by
  obtain ⟨g, rfl, rfl, ok, o⟩ := hq
  exact pts_nil.run pins s g.st g.H Q I (o g rfl rfl (.refl g) ok)⟩⟩
theorem fts_one {X : Cx} {c : Expr} {f : TF} (h : FT X c f) : FTs X [c] f := ⟨fun W tk => pts_one (h.pt W tk)⟩
def cLoop (b : BF) (vs : List Nat) (tt : TF) (te : CF) : List PyData → SE → List PyData → Res (List PyData × SE)
  | [], env, acc => .ok (acc, env)
  | x :: xs, env, acc => if noCell env vs = true then match b x (wipeE env vs) with
    | none => .fail
    | some e1 => match tt e1 with
      | .ok (true, e2) => match te e2 with
        | .ok (y, e3) => if acc.length < lim then cLoop b vs tt te xs (restE env vs e3) (acc ++ [y]) else .fail
        | .exc _ _ _ => .fail
        | .fail => .fail
      | .ok (false, e2) => cLoop b vs tt te xs (restE env vs e2) acc
      | .exc _ _ _ => .fail
      | .fail => .fail
    else .fail
def fComp (fi : IF) (b : BF) (vs : List Nat) (tt : TF) (te : CF) : EF := fun env => (fi env).bind fun p => match cLoop b vs tt te p.1.1 (lockAll p.1.2 p.2) [] with
  | .ok (acc, e) => .ok (.tmp (.lst acc), unlockAll p.1.2 p.2 e)
  | .exc _ _ _ => .fail
  | .fail => .fail
theorem comp_core {X : Cx} {own : List (Str × Nat)} {fi : IF} {vb : List Nat} {b : BF} {tt : TF} {te : CF} (hsub : ∀ i ∈ vb, i ∈ own.map (·.2)) {W : WX} {g : G} {Q : VK} (ok : g.Ok X.K) (o : Out X W g (fComp fi b (own.map (·.2)) tt te g.env) fun g' rv => ∀ v, RVR X.K g.H g' rv v → Q v g'.H) :
    tLc (tIt X W fi) (tBd X vb b) (tTt X (fun _ _ _ _ => False) tt) (tCn X (fun _ _ _ _ => False) te) (own.map (·.2)) g.st g.H Q := by
  generalize own.map (·.2) = vs at *
  refine ⟨g, rfl, rfl, ok, o.bind0.imp fun g1 p st e o1 q J L hL hJ D hD => ?_⟩
  obtain ⟨ds, lk⟩ := p
  obtain ⟨S, s0, sx, sd, sj⟩ := hJ
  cases hr : cLoop b vs tt te ds (lockAll lk g1.env) [] with
  | exc c fs env' => rw [hr] at q; exact q.elim
  | fail => rw [hr] at q; exact q.elim
  | ok y =>
  obtain ⟨fin, envF⟩ := y
  rw [hr] at q
  simp only at q
  have oL : (lockG lk g1).Ok X.K := ok_lockAll lk o1
  obtain ⟨sB1, sB2, a0, ha0, hA0, hC0, hf0, hh0⟩ := alloc_lst (g := lockG lk g1) oL hD Dvs.nil
  cases ha0
  have hLD : ∀ a, L a → a ≠ D := fun a la z => sd _ _ s0 a la (by rw [z]; exact hD)
  have hne : ∀ {a o}, g1.H a = some o → a ≠ D := fun {a o} h z => by rw [z, hD] at h; cases h
  have sS : S (fun b => g1.A b ∨ b = D) (upd g1.H D (.lst [])) := sx (fun _ => False) _ _ _ _ s0 ⟨fun a o h _ => by rw [upd_ne (hne h)]; exact h, sB1.ext.tup, sB1.ext.frz, sB1.ext.dom, fun a h _ => .inl h, sB1.ext.av2⟩ (fun _ z => z.elim) (fun _ _ z => z)
  refine ⟨fun i m H => m = ds.length - i ∧ i ≤ ds.length ∧ ∃ (g2 : G) (acc : List PyData) (ws : List V), g2.st = g.st ∧ g2.H = H ∧ g2.Ok X.K ∧ Stp (lockG lk g1) g2 ∧ S g2.A g2.H ∧ g2.A D ∧ g2.H D = some (.lst ws) ∧ Dvs X.K g2.A g2.H acc ws ∧ ¬ Has g2 D ∧ cLoop b vs tt te (ds.drop i) g2.env acc = .ok (fin, envF),
    ⟨ds.length, rfl, Nat.zero_le _, _, [], [], ?_, ?_, sB2, sB1, sS, .inr rfl, upd_same, Dvs.nil, hh0, hr⟩, ?_⟩
  · exact e
  · rfl
  rintro i m H' ⟨rfl, hle, g2, acc, ws, k1, rfl, o2, s2, ss, hA, hH, hd, hh, oo⟩
  by_cases hlt : i < ds.length
  · obtain ⟨go, yl⟩ := (sj _ _ ss).1 i _ (List.getElem?_eq_getElem hlt)
    rw [List.drop_eq_getElem_cons hlt] at oo
    simp only [cLoop] at oo
    split at oo
    · rename_i nc
      refine .inr ⟨go, _, fun H' z => ⟨ds.length - (i + 1), by omega, z⟩, fun x H' hy => ?_⟩
      obtain ⟨ex, dv⟩ := yl x H' hy
      have s3 : Stp g2 { g2 with H := H' } := Stp.same ex
      have o3 : ({ g2 with H := H' } : G).Ok X.K := o2.ext (ex _) (fun _ h => h) (fun a h => (ex (fun _ => False)).dom a (o2.dom a h))
      have h3 : H' D = some (.lst ws) := (ex (fun _ => False)).keep D _ hH id
      cases hb1 : b ds[i] (wipeE g2.env vs) with
      | none => rw [hb1] at oo; cases oo
      | some env1 =>
        rw [hb1] at oo
        simp only at oo
        rw [← k1]
        have turn : ∀ g5 : G, Stp (wipeG vs { g2 with H := H' }) g5 → g5.Ok X.K → wipe g5.st vs = wipe g2.st vs → ({ g5 with st := g2.st, env := restE g2.env vs g5.env } : G).Ok X.K ∧ Stp (lockG lk g1) { g5 with st := g2.st, env := restE g2.env vs g5.env } ∧ S g5.A g5.H ∧ g5.A D ∧ g5.H D = some (.lst ws) ∧ Dvs X.K g5.A g5.H acc ws ∧ ¬ Has { g5 with st := g2.st, env := restE g2.env vs g5.env } D := fun g5 s5 o5 hw => by
          obtain ⟨r1, r2, r3⟩ := rest_step (g := { g2 with H := H' }) o3 nc s5 o5 hw
          have s25 := s3.trans o2 r1
          have nh : ¬ Has (wipeG vs { g2 with H := H' }) D := fun z => hh (has_wipe z)
          have no : ¬ Own (wipeG vs { g2 with H := H' }) D := fun ⟨i, m, c, q1, _, q2⟩ => nh ⟨i, m, c, q1, q2⟩
          refine ⟨r2, s2.trans oL s25, sx (Own g2) _ _ _ _ ss s25.ext (Own.sub o2) (fun a la ow => ?_), s5.ext.av1 D hA no, s5.ext.keep D _ h3 no, s25.dvs o2 hd, fun z => ?_⟩
          · rcases s2.own a ow with z | z
            · exact hL a la z
            · exact sd _ _ s0 a la z
          · rcases s5.has D (r3 D z) with y | y
            · exact nh y
            · exact absurd y (by show H' D ≠ none; rw [h3]; simp)
        refine ⟨wipeG vs { g2 with H := H' }, ds[i], env1, rfl, rfl, ok_wipe o3, dv, hb1, fun g4 e4 a4 f4 s4 o4 h4 => ?_⟩
        have hw : wipe g4.st vs = wipe g2.st vs := wipe_same (by rw [f4.1]; exact wipe_length _ _) fun j hj => by
          rw [(f4.2.2 j fun z => hj (hsub j z)).1]
          exact wipe_out hj
        refine ⟨hw, g4, rfl, rfl, o4, ?_⟩
        rw [e4]
        cases ht : tt env1 with
        | exc c fs env' => rw [ht] at oo; cases oo
        | fail => rw [ht] at oo; cases oo
        | ok y =>
          obtain ⟨bb, e2⟩ := y
          rw [ht] at oo
          intro g5 e5 q5 s5 o5
          cases bb with
          | false =>
            simp only at oo
            obtain ⟨t1, t2, t3, t4, t5, t6, t7⟩ := turn g5 (s4.trans (ok_wipe o3) s5) o5 (by rw [q5]; exact hw)
            exact ⟨rfl, hlt, { g5 with st := g2.st, env := restE g2.env vs g5.env }, acc, ws, rfl, rfl, t1, t2, t3, t4, t5, t6, t7, by show cLoop b vs tt te _ (restE g2.env vs g5.env) _ = _; rw [e5]; exact oo⟩
          | true =>
            simp only at oo
            refine ⟨g5, q5, rfl, o5, ?_⟩
            rw [e5]
            cases hte : te e2 with
            | exc c fs env' => rw [hte] at oo; cases oo
            | fail => rw [hte] at oo; cases oo
            | ok y =>
              obtain ⟨y, e3⟩ := y
              rw [hte] at oo
              simp only at oo
              intro g6 e6 q6 s6 o6 v dv6
              obtain ⟨t1, t2, t3, t4, t5, t6, t7⟩ := turn g6 ((s4.trans (ok_wipe o3) s5).trans (ok_wipe o3) s6) o6 (by rw [q6, q5]; exact hw)
              split at oo
              · rename_i hlen
                obtain ⟨b1, b2, b3⟩ := bump (g0 := lockG lk g1) (g := { g6 with st := g2.st, env := restE g2.env vs g6.env }) (ws' := ws ++ [v]) t1 t4 t7 t5 hD t2
                have sub : ∀ b, b = D → g6.A b := fun b z => by rw [z]; exact t4
                refine ⟨ws, t5, by rw [← t6.length, ← lim_line]; exact hlen, rfl, hlt, { g6 with st := g2.st, env := restE g2.env vs g6.env, H := upd g6.H D (.lst (ws ++ [v])) }, acc ++ [y], ws ++ [v], rfl, rfl, b3, b2, sx (fun b => b = D) _ _ _ _ t3 b1 sub (fun a la z => hLD a la z), t4, upd_same, ?_, t7, ?_⟩
                · exact Dvs.append (Dvs.ext b1 sub _ _ t6) (Dvs.one (Dv.ext b1 sub _ _ dv6))
                · show cLoop b vs tt te _ (restE g2.env vs g6.env) _ = _
                  rw [e6]; exact oo
              · cases oo
    · cases oo
  · have hi : i = ds.length := by omega
    subst hi
    refine .inl ⟨(sj _ _ ss).2, ?_⟩
    simp only [List.drop_length, cLoop, Res.ok.injEq, Prod.mk.injEq] at oo
    obtain ⟨rfl, rfl⟩ := oo
    obtain ⟨s3, o3⟩ := unlock_all lk o1 s2 o2
    exact q { g2 with env := unlockAll lk g1.env g2.env } rfl k1 (st.trans ok s3) o3 (.ref D) ⟨D, rfl, hA, ⟨ws, hH, hd⟩, none_of_dom st.ext.dom hD, fun z => hh (has_unlock lk o1 o2 s2 z)⟩
theorem fe_comp {X : Cx} {elt tg iter : Expr} {ifs : List Expr} {scope : Scope} {own : List (Str × Nat)} {pos : Pos} {fi : IF} {vb : List Nat} {b : BF} {tt : TF} {te : CF} (hc : X.calm = true) (hN : X.N.Nodup) (hi : FI X tg iter fi) (ok : BlkOk X.N X.env.scope scope own)
    (hg : ∀ (s : Shared) (H : Hp) (C : Addr) (cl : List (Str × Addr)) (fp : List Addr), FG (X.blk s H scope (compEnvC scope cl C X.env) fp) tg vb b) (ht : ∀ (s : Shared) (H : Hp) (C : Addr) (cl : List (Str × Addr)) (fp : List Addr), FTs (X.blk s H scope (compEnvC scope cl C X.env) fp) ifs tt)
    (he : ∀ (s : Shared) (H : Hp) (C : Addr) (cl : List (Str × Addr)) (fp : List Addr), FC (X.blk s H scope (compEnvC scope cl C X.env) fp) elt te) (hsub : ∀ i ∈ vb, i ∈ own.map (·.2) := by decide)
    (hs : ∀ x, foldedSetIterable iter X.env x = pure x := by first | exact fun _ => rfl | assumption) : FE X (.ListComp elt [⟨tg, iter, ifs, 0⟩] scope pos) (fComp fi b (own.map (·.2)) tt te) := by
  refine ⟨fun W tk => ⟨fun pins s σ H Q I hq => ?_⟩⟩
  obtain ⟨g, rfl, rfl, o1, o⟩ := hq
  refine (pe_lc (X := X) (wi := tIt X W fi) (g := tBd X vb b) (tt := tTt X (fun _ _ _ _ => False) tt) (te := tCn X (fun _ _ _ _ => False) te) hc hN (hi.pi W tk) ok (fun s H C cl fp => (hg s H C cl fp).pg) (fun s H C cl fp => (ht s H C cl fp).pts _ takes0) (fun s H C cl fp => (he s H C cl fp).pe _ takes0) hs).run pins s g.st g.H Q I ?_
  exact comp_core hsub o1 o
end BH

set_option maxRecDepth 100000
set_option maxHeartbeats 2000000
namespace BH
open PySem PySem.Spec PyProof.Rows L2

/-! ### further stores -/
def fBind (b : BF) (f : CF) : SF := fun env => (f env).bind fun p => match b p.1 p.2 with
  | some env' => .ok (.nx, env')
  | none => .fail
theorem fs_bind {X : Cx} {tg e : Expr} {f : CF} {vs : List Nat} {b : BF} {pos : Pos} (h : FC X e f) (hg : FG X tg vs b) (hs : swapsWithSole [tg] e pos.line X.env = pure false := by rfl) (hw : swappedStores [tg] e X.env = pure none := by rfl)
    (h1 : (assignEach [tg] X.env).map (·.2) = [assign tg X.env] := by rfl) : FS X (.Assign [tg] e pos) (fBind b f) := by
  refine ⟨fun W tk hp => ⟨fun pins s σ H D I hq => ?_⟩⟩
  obtain ⟨g, rfl, rfl, ok, o⟩ := hq
  refine (ps_asg (h.pe W tk) hg.pg hs hw h1).run pins s g.st g.H D I ⟨g, rfl, rfl, ok, (OutS.bindE o).imp fun g1 x st e o1 p v dv => ?_⟩
  cases hb : b x g1.env with
  | none => rw [hb] at p; exact p.elim
  | some env' =>
    rw [hb] at p
    exact ⟨g1, x, env', e, rfl, o1, dv, hb, fun g2 e2 _ _ s2 o2 _ => p g2 e2 (st.trans ok s2) o2⟩
/-- an own list in slot j is changed -/
def pokeE (env : SE) (j : Nat) (f : List PyData → Option (List PyData)) : Option SE := match env[j]? with
  | some (some (.cell .own (.lst xs))) => (f xs).map fun ys => env.set j (some (.cell .own (.lst ys)))
  | some (some (.cell .bor (.lst xs))) => (f xs).map fun ys => env.set j (some (.cell .bor (.lst ys)))
  | _ => none
theorem poke_of {K : PySem.W.Frag} {g : G} {j : Nat} {f : List PyData → Option (List PyData)} {env' : SE} {v : V} (ok : g.Ok K) (hv : g.st[j]? = some (some v)) (h : pokeE g.env j f = some env') :
    ∃ (m : Mode) (a : Addr) (xs ys : List PyData) (vs : List V), v = .ref a ∧ m ≠ .lock ∧ g.env[j]? = some (some (.cell m (.lst xs))) ∧ f xs = some ys ∧ g.H a = some (.lst vs) ∧ Dvs K g.A g.H xs vs ∧ env' = g.env.set j (some (.cell m (.lst ys))) := by
  unfold pokeE at h
  split at h
  · rename_i xs hj
    cases hf : f xs with
    | none => rw [hf] at h; cases h
    | some ys =>
      rw [hf] at h; cases h
      obtain ⟨a, q1, q2, vs, q3, q4⟩ := ok.cel j _ _ hj
      rw [hv] at q1; cases q1
      exact ⟨.own, a, xs, ys, vs, rfl, by simp, hj, hf, q3, q4, rfl⟩
  · rename_i xs hj
    cases hf : f xs with
    | none => rw [hf] at h; cases h
    | some ys =>
      rw [hf] at h; cases h
      obtain ⟨a, q1, q2, vs, q3, q4⟩ := ok.cel j _ _ hj
      rw [hv] at q1; cases q1
      exact ⟨.bor, a, xs, ys, vs, rfl, by simp, hj, hf, q3, q4, rfl⟩
  · cases h
def fSetIx (fo : EF) (fi fv : CF) : SF := fun env => (fv env).bind fun p => (fo p.2).bind fun q => (fi q.2).bind fun r => match q.1, r.1 with
  | .slot j, .int k => match pokeE r.2 j fun xs => (ixN xs.length k).map fun n => xs.set n p.1 with
    | some env' => .ok (.nx, env')
    | none => .fail
  | _, _ => .fail
theorem fs_setIx {X : Cx} {o i e : Expr} {fo : EF} {fi fv : CF} {pos pos' : Pos} (hv : FC X e fv) (ho : FE X o fo) (hi : FC X i fi) (hs : swapsWithSole [.Subscript o i pos'] e pos.line X.env = pure false := by rfl) (hw : swappedStores [.Subscript o i pos'] e X.env = pure none := by rfl)
    (h1 : (assignEach [.Subscript o i pos'] X.env).map (·.2) = [assign (.Subscript o i pos') X.env] := by rfl)
    (ha : ∀ v, assign (.Subscript o i pos') X.env v = (do
      let ov ← holding [v] (eval o X.env)
      let iv ← holding [v, ov] (eval i X.env)
      standAt pos'
      holding [v, ov, iv] (setItem ov iv v)
      release [v, ov, iv] []) := by intro _; rfl) : FS X (.Assign [.Subscript o i pos'] e pos) (fSetIx fo fi fv) := by
  refine ⟨fun W tk hp => ⟨fun pins s σ H D I hq => ?_⟩⟩
  obtain ⟨g, rfl, rfl, ok, oo⟩ := hq
  refine (ps_asg (hv.pe W tk) (pg_sub (ho.pe W tk) (hi.pe W tk) set_list ha) hs hw h1).run pins s g.st g.H D I ⟨g, rfl, rfl, ok, (OutS.bindE oo).imp fun g1 x st e o1 p v dv => ?_⟩
  refine ⟨g1, e, rfl, o1, (OutS.bindE (OutS.rebase ok st p)).imp fun g2 rv st2 e2 o2 p2 w rr => ?_⟩
  refine ⟨g2, e2.trans e, rfl, o2, (OutS.bindE (OutS.rebase o1 st2 p2)).imp fun g3 y st3 e3 o3 p3 z dz => ?_⟩
  have dv3 := (st2.trans o1 st3).dv o1 dv
  have rr3 := rr.step o2 st3 e3
  split at p3
  · rename_i j k hq hk
    change rv = .slot j at hq
    change y = .int k at hk
    subst hq hk
    have hst : g3.st[j]? = some (some w) := rr3
    cases hp3 : pokeE g3.env j fun xs => (ixN xs.length k).map fun n => xs.set n x with
    | none => rw [hp3] at p3; exact p3.elim
    | some env' =>
      rw [hp3] at p3
      simp only at p3
      obtain ⟨m, a, xs, ys, vs, rfl, hm, hj, hf, hH, hd, he⟩ := poke_of o3 hst hp3
      cases hn : ixN xs.length k with
      | none => rw [hn] at hf; cases hf
      | some n =>
        rw [hn] at hf; cases hf
        simp only [Dv] at dz
        have dz := dz
        obtain ⟨s4, o4⟩ := poke (ws := vs.set n v) o3 hj hm hst hH (Dvs.set dv3 n hd)
        rw [← he] at s4 o4
        have e4 : g3.st = g.st := e3.trans (e2.trans e)
        refine ⟨a, vs, k, n, rfl, dz, hH, by rw [← hd.length]; exact hn, ?_⟩
        have := p3 _ rfl (st3.trans o2 s4) o4
        rw [← e4]
        exact this
  · exact p3.elim

/-! ### zip -/
def zipD (ds es : List PyData) : List PyData := List.zipWith (fun a b => .tuple [a, b]) ds es
theorem zip_ok {K : PySem.W.Frag} {J : It} {ds es : List PyData} {A : AS} {H : Hp} (S1 S2 : Hp → List V → Prop) (vs ws : List V) (k1 : ∀ O A H A' H', Dvs K A H ds vs → S1 H vs → Ext O A H A' H' → (∀ a, O a → A a) → (S1 H' vs ∧ Dvs K A' H' ds vs))
    (k2 : ∀ O A H A' H', Dvs K A H es ws → S2 H ws → Ext O A H A' H' → (∀ a, O a → A a) → (S2 H' ws ∧ Dvs K A' H' es ws)) (h1 : S1 H vs ∧ Dvs K A H ds vs) (h2 : S2 H ws ∧ Dvs K A H es ws)
    (hgo : ∀ H i x y, S1 H vs → S2 H ws → vs[i]? = some x → ws[i]? = some y → J.go i H)
    (hy : ∀ H i v H', S1 H vs → S2 H ws → J.yld i H v H' → ∃ T x y, v = .ref T ∧ H T = none ∧ H' = upd H T (.tup [x, y]) ∧ vs[i]? = some x ∧ ws[i]? = some y)
    (hst : ∀ H i, S1 H vs → S2 H ws → (vs.length ≤ i ∨ ws.length ≤ i) → J.stop i H) : ItOk K (fun _ => False) J (zipD ds es) A H := by
  refine ⟨fun A H => (S1 H vs ∧ Dvs K A H ds vs) ∧ S2 H ws ∧ Dvs K A H es ws, ⟨h1, h2⟩, fun O A H A' H' ⟨⟨a1, a2⟩, b1, b2⟩ e hO _ => ⟨k1 O A H A' H' a2 a1 e hO, k2 O A H A' H' b2 b1 e hO⟩, fun _ _ _ _ z => z.elim, fun A H ⟨⟨a1, a2⟩, b1, b2⟩ => ⟨fun i x0 e => ?_, ?_⟩⟩
  · unfold zipD at e
    rw [List.getElem?_zipWith] at e
    cases hd : ds[i]? with
    | none => rw [hd] at e; cases e
    | some d =>
      cases he : es[i]? with
      | none => rw [hd, he] at e; cases e
      | some d' =>
        rw [hd, he] at e; cases e
        obtain ⟨v, e1, e2⟩ := a2.getD hd
        obtain ⟨w, f1, f2⟩ := b2.getD he
        refine ⟨hgo H i v w a1 b1 e1 f1, fun x H' y => ?_⟩
        obtain ⟨T, x1, y1, rfl, hT, rfl, q1, q2⟩ := hy H i x H' a1 b1 y
        rw [e1] at q1; cases q1
        rw [f1] at q2; cases q2
        have ex : ∀ O, Ext O A H A (upd H T (.tup [v, w])) := fun O => alloc_ext hT
        refine ⟨ex, ?_⟩
        simp only [Dv]
        exact ⟨T, [v, w], rfl, .of upd_same, Dvs.cons (Dv.ext (ex (fun _ => False)) (fun _ z => z.elim) _ _ e2) (Dvs.one (Dv.ext (ex (fun _ => False)) (fun _ z => z.elim) _ _ f2))⟩
  · refine hst H _ a1 b1 ?_
    unfold zipD
    rw [List.length_zipWith, ← a2.length, ← b2.length]
    omega
theorem lsd_keep {K : PySem.W.Frag} {a : Addr} {vs : List V} {O A A' : AS} {H H' : Hp} (h : LsD K A H a vs) (e : Ext O A H A' H') (hO : ∀ a, O a → A a) : LsD K A' H' a vs := by
  rcases h with ⟨n, q⟩ | q
  · refine .inl ⟨fun z => ?_, e.rd hO (fun z => n (hO a z)) q⟩
    rcases e.av2 a z with y | y
    · exact n y
    · exact rd_some q y
  · exact .inr q
def fZip (f : CFs) : IF := fun env => (f env).bind fun p => match p.1 with
  | [.list ds, .list es] => .ok ((zipD ds es, []), p.2)
  | [.tuple ds, .tuple es] => .ok ((zipD ds es, []), p.2)
  | _ => .fail
theorem fi_zip {X : Cx} {a b : Expr} {f : CFs} {p pos tpos : Pos} {elts : List Expr} {kk : Nat} (hg : Gl X "zip") (hm : X.mg "zip" = none) (ha : FCs X [a, b] f)
    (hs : starEach [a, b] X.env = (false, eval a X.env) :: starEach [b] X.env := by rfl) (hpl : (backTo pos (starEach [b] X.env)).any (·.1) = false := by rfl) : FI X (.Tuple elts kk tpos) (.Call (.Name "zip" p) [a, b] [] pos) (fZip f) := by
  refine ⟨fun W tk => ⟨fun pins s σ H R I hq => ?_⟩⟩
  obtain ⟨g, rfl, rfl, ok, o⟩ := hq
  refine (RZ.pi_zipA hg hm (ha.pa W tk) hs hpl).run pins s g.st g.H R I ⟨g, rfl, rfl, ok, o.bind0.imp fun g1 xs st e o1 q vs dv => ?_⟩
  split at q
  · rename_i ds es hx
    change xs = _ at hx
    subst hx
    simp only [Dvs, Dv] at dv
    obtain ⟨_, _, rfl, ⟨a, us, rfl, la, da⟩, _, _, rfl, ⟨b, ws, rfl, lb, db⟩, rfl⟩ := dv
    refine ⟨a, b, us, ws, rfl, .inl ⟨la.sq, lb.sq, ?_⟩⟩
    refine q g1 rfl e st o1 _ (fun _ => False) (fun _ z => z.elim) ?_
    refine ⟨fun A H => (LsD X.K A H a us ∧ Dvs X.K A H ds us) ∧ LsD X.K A H b ws ∧ Dvs X.K A H es ws, ⟨⟨la, da⟩, lb, db⟩, fun O A H A' H' ⟨⟨a1, a2⟩, b1, b2⟩ e hO _ => ⟨⟨lsd_keep a1 e hO, Dvs.ext e hO _ _ a2⟩, lsd_keep b1 e hO, Dvs.ext e hO _ _ b2⟩, fun _ _ _ _ z => z.elim, fun A H ⟨⟨a1, a2⟩, b1, b2⟩ => ⟨fun i x0 e => ?_, ?_⟩⟩
    · unfold zipD at e
      rw [List.getElem?_zipWith] at e
      cases hd : ds[i]? with
      | none => rw [hd] at e; cases e
      | some d =>
        cases he : es[i]? with
        | none => rw [hd, he] at e; cases e
        | some d' =>
          rw [hd, he] at e; cases e
          obtain ⟨v, e1, e2⟩ := a2.getD hd
          obtain ⟨w, f1, f2⟩ := b2.getD he
          refine ⟨⟨us, ws, v, w, a1.sq, b1.sq, e1, f1⟩, fun x H' y => ?_⟩
          obtain ⟨T, x1, y1, rfl, hT, rfl, q1, q2⟩ := y
          have q1 := q1 us a1.sq
          have q2 := q2 ws b1.sq
          rw [e1] at q1; cases q1
          rw [f1] at q2; cases q2
          have ex : ∀ O, Ext O A H A (upd H T (.tup [v, w])) := fun O => alloc_ext hT
          refine ⟨ex, ?_⟩
          simp only [Dv]
          exact ⟨T, [v, w], rfl, .of upd_same, Dvs.cons (Dv.ext (ex (fun _ => False)) (fun _ z => z.elim) _ _ e2) (Dvs.one (Dv.ext (ex (fun _ => False)) (fun _ z => z.elim) _ _ f2))⟩
    · refine ⟨us, ws, a1.sq, b1.sq, ?_⟩
      unfold zipD
      rw [List.length_zipWith, ← a2.length, ← b2.length]
      omega
  · rename_i ds es hx
    change xs = _ at hx
    subst hx
    simp only [Dvs, Dv] at dv
    obtain ⟨_, _, rfl, ⟨a, us, rfl, la, da⟩, _, _, rfl, ⟨b, ws, rfl, lb, db⟩, rfl⟩ := dv
    refine ⟨a, b, us, ws, rfl, .inr ⟨la, lb, ?_⟩⟩
    refine q g1 rfl e st o1 _ (fun _ => False) (fun _ z => z.elim) ?_
    refine zip_ok (fun H vs => SqT X.K H a vs) (fun H ws => SqT X.K H b ws) us ws (fun O A H A' H' d s e hO => ⟨sqt_ext e.tup e.frz s, Dvs.ext e hO _ _ d⟩) (fun O A H A' H' d s e hO => ⟨sqt_ext e.tup e.frz s, Dvs.ext e hO _ _ d⟩) ⟨la, da⟩ ⟨lb, db⟩
      (fun H i x y s1 s2 e1 e2 => ⟨us, ws, x, y, s1, s2, e1, e2⟩) (fun H i v H' s1 s2 y => ?_) (fun H i s1 s2 z => ⟨us, ws, s1, s2, z⟩)
    obtain ⟨T, x, y, h1, h2, h3, h4, h5⟩ := y
    exact ⟨T, x, y, h1, h2, h3, h4 us s1, h5 ws s2⟩
  · exact q.elim
end BH

set_option maxRecDepth 100000
set_option maxHeartbeats 2000000
namespace BH
open PySem PySem.Spec PyProof.Rows L2

/-! ### repr -/
def opRepr : List PyData → Option RV
  | [.list xs] => if (PyData.list xs).showable = true ∧ (PyData.list xs).hasDict = false ∧ (PyData.list xs).depth ≤ 60 ∧ (PyData.list xs).shown.length ≤ lim then some (.d (.str (PyData.list xs).shown)) else none
  | [.tuple xs] => if (PyData.tuple xs).showable = true ∧ (PyData.tuple xs).hasDict = false ∧ (PyData.tuple xs).depth ≤ 60 ∧ (PyData.tuple xs).shown.length ≤ lim then some (.d (.str (PyData.tuple xs).shown)) else none
  | [.int i] => if i.natAbs.log2 < 1920 then some (.d (.str (PyData.int i).shown)) else none
  | _ => none
theorem cd_repr {X : Cx} (hg : X.A.guards = some []) (hu : X.A.units + 65 < cLine) : CallD X (.builtin "repr") opRepr := by
  intro g pins s xs vs us r ok I hx rv e
  have core : ∀ (d : PyData) (a : Addr) (u : Value), Dw X.K g.A g.H d (.ref a) → RelV (.ref a) u → d.showable = true ∧ d.hasDict = false ∧ d.depth ≤ 60 ∧ d.shown.length ≤ lim → wpAny (model X.prog X.w) X.A (call (.builtin "repr") [u]) (OpQ X pins g (.d (.str d.shown))) X.xe s := by
    rintro d a u hd ru ⟨q1, q2, q3, q4⟩
    cases ru
    obtain ⟨as, rd⟩ := hd.reads I (show RelV (.ref a) (.ref a) from rfl)
    refine PySem.repr_of_reads' rd q1 (PyData.noDict_hsm q2) hg (by omega) (fun _ _ e => e) (fun h' u tk hk => ?_) (by rw [← lim_line]; exact q4)
    exact ⟨.str d.shown, g, rfl, rfl, I.kept (t' := tk) hk, ⟨u, rfl⟩, .refl g, ok, by show Dv _ _ _ _ _; simp only [Dv]⟩
  unfold opRepr at e
  split at e
  · split at e
    · rename_i h
      cases e
      obtain ⟨v, rfl, hd⟩ := dws1 hx
      obtain ⟨a, ws, rfl, q⟩ := dw_lst hd
      cases rv with
      | cons r1 r2 => cases r2; exact core _ a _ hd r1 h
    · cases e
  · split at e
    · rename_i h
      cases e
      obtain ⟨v, rfl, hd⟩ := dws1 hx
      obtain ⟨a, ws, rfl, q⟩ := dw_tup hd
      cases rv with
      | cons r1 r2 => cases r2; exact core _ a _ hd r1 h
    · cases e
  · rename_i i
    split at e
    · rename_i h
      cases e
      obtain ⟨v, rfl, hd⟩ := dws1 hx
      obtain rfl := dw_int hd
      cases rv with
      | cons r1 r2 =>
        cases r2
        obtain ⟨t, rfl⟩ := r1
        refine PySem.P.repr_of_int h ?_
        exact ⟨.str (PyData.int i).shown, g, rfl, rfl, I.kept (t' := s.toks + 1) fun _ _ e => e, ⟨s.toks, by simp only [PyData.shown]⟩, .refl g, ok, by show Dv _ _ _ _ _; simp only [Dv]⟩
    · cases e
  · cases e

/-! ### isinstance -/
def fIsa (op : PyData → Bool) (f : EF) : EF := fun env => (f env).bind fun p => match p.1.view p.2 with
  | some x => .ok (.d (.bool (op x)), p.2)
  | none => .fail
/-- the library's rule for the class T -/
def IsaRule (X : Cx) (T : String) (op : PyData → Bool) : Prop :=
  ∀ {s : Shared} {v : Value} {d : PyData} {as : List Addr} {Q : Value → Shared → Prop}, Reads s.heap v d as → (∀ tk, s.toks ≤ tk → Q (.bool (op d)) { s with toks := tk }) → wpAny (model X.prog X.w) X.A (call (.builtin "isinstance") [v, .type T]) Q X.xe s
theorem isa_int {X : Cx} : IsaRule X "int" PyData.isInt := fun r h => PySem.W.isinstance_int_data r h
theorem isa_bool {X : Cx} : IsaRule X "bool" PyData.isBool := fun r h => PySem.W.isinstance_bool_data r h
theorem isa_tuple {X : Cx} : IsaRule X "tuple" PyData.isTuple := fun r h => PySem.W.isinstance_tuple_data r h
theorem isa_list {X : Cx} : IsaRule X "list" PyData.isList := fun r h => PySem.W.isinstance_list_data r h
theorem isa_str {X : Cx} : IsaRule X "str" PyData.isStr := fun r h => PySem.W.isinstance_str_data r h
theorem isa_dict {X : Cx} : IsaRule X "dict" PyData.isDict := fun r h => PySem.W.isinstance_dict_data r h
theorem fe_isa {X : Cx} {T : String} {n : Str} {op : PyData → Bool} {e : Expr} {f : EF} {p pn pos : Pos} (hr : IsaRule X T op) (hg : Gl X "isinstance") (hm : X.mg "isinstance" = none) (hg2 : Gl X n) (hm2 : X.mg n = none) (hv2 : bootBuiltins n = some (.type T)) (h : FE X e f)
    (hn2 : n ≠ "__name__" := by decide) (hd2 : (n == ("__debug__" : Str)) = false := by decide)
    (he : starEach [e, .Name n pn] X.env = (false, eval e X.env) :: starEach [.Name n pn] X.env := by rfl) (hpl : (backTo pos (starEach [.Name n pn] X.env)).any (·.1) = false := by rfl)
    (he2 : starEach [.Name n pn] X.env = [(false, eval (.Name n pn) X.env)] := by rfl) : FE X (.Call (.Name "isinstance" p) [e, .Name n pn] [] pos) (fIsa op f) :=
  fe_mk fun W tk g pins s P ok I o => by
    refine wpAny_Call_Name_kw (ld_blt I hg hm (show bootBuiltins ("isinstance" : Str) = some (.builtin "isinstance") from rfl) ?_)
    refine PyProof.Rows.callWith_builtin1 ?_ he hpl
    rw [he, he2]
    show wpAny _ _ (spliced ((false, eval e X.env) :: backTo pos [(false, eval (.Name n pn) X.env)])) _ _ s
    refine Calls.spliced_cons (h.go tk ok I o.bind0 fun u s1 g1 rv v e1 I1 r o1 st rr p => ?_)
    refine Calls.spliced_cons ((pe_bltn (X := X) (v := .ty T) (pos := pn) hg2 hm2 hv2 rfl hn2 hd2).run pins s1 g1.st g1.H (fun v' H' => v' = .ty T ∧ H' = g1.H) I1 ⟨rfl, rfl⟩ |> fun q => thn q fun u2 s2 ⟨v2, H2, I2, r2, z1, z2⟩ => ?_)
    subst z1 z2
    cases r2
    refine Calls.spliced_nil ?_
    cases hx : rv.view g1.env with
    | none => rw [hx] at p; exact p.elim
    | some x =>
      rw [hx] at p
      obtain ⟨as, rd⟩ := (rr.dw o1 hx).reads I2 r
      refine hr rd fun tk' _ => ?_
      refine ⟨.bl (op x), g1, .d (.bool (op x)), ?_, rfl, by show Dv _ _ _ _ _; simp only [Dv], p g1 rfl e1 st o1⟩
      rw [← e1]
      exact I2.kept (t' := tk') fun _ _ e => e
end BH

set_option maxRecDepth 100000
set_option maxHeartbeats 2000000
namespace BH
open PySem PySem.Spec PyProof.Rows L2

/-! ### a def's promise, where no guard is on the stack -/
structure FnG (P : Program) (w : World) (K : PySem.W.Frag) (mg : Str → Option Value) (base : Heap) (k : Nat) (f : Addr) (fd : FuncData) (ps : List Str) (sp : Sp) : Prop where
  len : ∀ vs H Q E, sp vs H Q E → vs.length = ps.length
  go : ∀ (A : Around) (outer : List Env) (s : Shared) (H : Hp) (args : Args) (us : List Value) (vs : List V) (Q : VK) (E : XK), Room k A → A.guards = some [] → Env0 P w K mg base A outer s H → BindsTo s fd args (ps.zip us) → Vals vs us → sp vs H Q E →
    codeAny (model P w) A (.call (.ref f) args) (CR (L2.CX P w) outer P w H s Q E) s
theorem FnG.mono {P : Program} {w : World} {K : PySem.W.Frag} {mg : Str → Option Value} {base : Heap} {j k : Nat} {f : Addr} {fd : FuncData} {ps : List Str} {sp : Sp} (F : FnG P w K mg base j f fd ps sp) (h : j ≤ k) : FnG P w K mg base k f fd ps sp :=
  ⟨F.len, fun A o s H args us vs Q E hr hg => F.go A o s H args us vs Q E (hr.mono h) hg⟩
theorem fn_g {P : Program} {w : World} {K : PySem.W.Frag} {mg : Str → Option Value} {base : Heap} {x qual : Str} {st : Stmt} {f : Addr} {fd : FuncData} {N ps : List Str} {k : Nat} {sp : Sp} (F : Fun K x qual st f fd) (S : FnScope N ps (defScope st)) (len : ∀ vs H Q E, sp vs H Q E → vs.length = ps.length)
    (hbody : ∀ (cdv : Value) (A : Around) (outer : List Env) (s : Shared) (H : Hp) (vs : List V) (Q : VK) (E : XK), Room k (A.deeper (envOfC qual (defScope st) s.heap.objs.size f cdv)) → (A.deeper (envOfC qual (defScope st) s.heap.objs.size f cdv)).guards = some [] → sp vs H Q E →
      ∃ t, PSs (cxOf (L2.CX P w) P w K mg base N qual (defScope st) f cdv A outer s H E) (defBody st) t ∧ t { nx := fun _ H' => Q .non H', rt := Q } (L2.start N vs) H) : FnG P w K mg base (k + 1) f fd ps sp := by
  obtain ⟨oc, od, kV, doc, pm, an, cdv, ct, osl, rfl, lk, hcd⟩ := F.ex
  refine ⟨len, fun A outer s H args us vs Q E hr hg e0 hb r hsp => ?_⟩
  have hl := len _ _ _ _ hsp
  have inS : K.In s.heap := e0.mod.kin.keeps fun b o e => (e0.bs b o e).1
  have noL : s.heap.NoLimit := e0.mod.nolimit.keeps fun b o e => (e0.bs b o e).1
  have kinds : ∀ y ∈ ps.zip us, (defScope st).names.lookup y.1 = some .local ∨ ((defScope st).names.lookup y.1 = some .cell ∧ ((cellsFrom (s.heap.objs.size + 1) (defScope st).names []).lookup y.1).isSome = true) := by
    rintro ⟨n, v⟩ hy
    refine (S.par n (List.of_mem_zip hy).1).imp id fun q => ⟨q, ?_⟩
    exact PySem.W.cellsFrom_some _ _ _ (.inl q)
  refine codeAny_call_function hr.depth (inS _ _ lk) rfl S.co S.gen rfl (PySem.W.codeRec_of inS hcd) (hb _ _ _ _ ?_)
  refine wpAny_newFunctionEnv_cells S.kind kinds fun env he s1 ic => ?_
  subst he
  refine ⟨noL.keeps ic.toInCall.keep, codeAny_func ?_⟩
  obtain ⟨t, ht, hq⟩ := hbody cdv A outer s H vs Q E (hr.deeper _) hg hsp
  refine wpAny_mono (ht.run [] s1 (L2.start N vs) H _ (inv_start S hr.hd e0 hl r ic) hq) (fun fl s' hs => ?_) fun e s' hs => hs
  have done : ∀ {σ' : L2.St} {H' : Hp} {v : V} {u : Value}, Inv (cxOf (L2.CX P w) P w K mg base N qual (defScope st) f cdv A outer s H E) [] σ' H' s' → RelV v u → Q v H' → CE outer P w H s Q u s' :=
    fun {σ' H' v u} J rv q => ⟨v, H', J.os, J.bare, J.base, J.hok, rv, q⟩
  cases fl with
  | ret u => obtain ⟨v, σ', H', J, rv, q⟩ := hs; exact done J rv q
  | next => obtain ⟨σ', H', J, q⟩ := hs; exact done (v := V.non) (u := Value.none) J rfl q
  | brk => exact hs.elim fun _ z => z.elim fun _ z => z.2.elim
  | cont => exact hs.elim fun _ z => z.elim fun _ z => z.2.elim
theorem run_g {X : Cx} {k : Nat} {f : Addr} {fd : FuncData} {ps : List Str} {sp : Sp} {E : XK} {pins : List (Addr × Obj)} {σ : L2.St} {H : Hp} {s : Shared} {Q : VK} {us : List Value} {vs : List V} (F : FnG X.prog X.w X.K X.mg X.base k f fd ps sp) (hr : Room k X.A) (hg : X.A.guards = some []) (hb : Binds X.K fd ps [])
    (hx : PassesAt (L2.CX X.prog X.w) X σ E) (I : Inv X pins σ H s) (r : Vals vs us) (h : sp vs H Q E) : wpAny (model X.prog X.w) X.A (call (.ref f) us) (EP X pins σ Q) X.xe s := by
  have hl : us.length = ps.length := by rw [← r.length]; exact F.len _ _ _ _ h
  have b := hb s us I.kIn (by rw [List.append_nil]; exact hl)
  rw [List.append_nil] at b
  refine wpAny_call (codeAny_mono (F.go X.A X.stack s H ⟨us, []⟩ us vs Q E hr hg I.env0 b r h) fun res s' hq => ?_)
  match res, hq with
  | .error e, hq => exact hx pins H s e s' I hq
  | .ok (.ret u), hq => exact I.after hq

/-! ### promises about data -/
inductive Arg where
  | d (x : PyData)
  | bor (c : Cell)
inductive FRes where
  | ok (r : Ret) (outs : List Arg)
  | exc (c : String) (fs : List (String × PyData)) (outs : List Arg)
  | fail
def ArgR (K : PySem.W.Frag) (A : AS) (H : Hp) : Arg → V → Prop
  | .d x, v => Dv K A H x v
  | .bor c, v => ∃ a, v = .ref a ∧ A a ∧ CellR K A H c a
def ArgsR (K : PySem.W.Frag) (A : AS) (H : Hp) : List Arg → List V → Prop
  | [], vs => vs = []
  | a :: as, vs => ∃ v t, vs = v :: t ∧ ArgR K A H a v ∧ ArgsR K A H as t
def BorL : List Arg → List V → AS
  | .bor _ :: as, v :: vs, a => v = .ref a ∨ BorL as vs a
  | .d _ :: as, _ :: vs, a => BorL as vs a
  | _, _, _ => False
def DisL : List Arg → List V → Prop
  | .bor _ :: as, v :: vs => (∀ a, v = .ref a → ¬ BorL as vs a) ∧ DisL as vs
  | .d _ :: as, _ :: vs => DisL as vs
  | _, _ => True
def OutsL (K : PySem.W.Frag) (A : AS) (H : Hp) : List Arg → List Arg → List V → Prop
  | [], _, _ => True
  | .bor _ :: as, .bor c' :: os, v :: vs => (∃ a, v = .ref a ∧ A a ∧ CellR K A H c' a) ∧ OutsL K A H as os vs
  | .d _ :: as, _ :: os, _ :: vs => OutsL K A H as os vs
  | _, _, _ => False
def RetC (K : PySem.W.Frag) (H0 : Hp) (A : AS) (H : Hp) : Ret → V → Prop
  | .d x, v => Dv K A H x v
  | .tmp c, v => ∃ a, v = .ref a ∧ A a ∧ CellR K A H c a ∧ H0 a = none
def ExcC (mg : Str → Option Value) (K : PySem.W.Frag) (A : AS) (H : Hp) (c : String) (fs : List (String × PyData)) (cls : Value) (d : Option Addr) : Prop :=
  ∃ C, cls = .ref C ∧ mg (Str.ofString c) = some (.ref C) ∧
    ((fs = [] ∧ d = none) ∨ ∃ dd vs, d = some dd ∧ H dd = some (.xd vs) ∧ fs.length = vs.length ∧
      ∀ (i : Nat) n x, fs[i]? = some (n, x) → ∃ v, vs[i]? = some (Str.ofString n, v) ∧ Dv K A H x v)
def FPost (mg : Str → Option Value) (K : PySem.W.Frag) (A : AS) (H : Hp) (as : List Arg) (vs : List V) (Q : VK) (E : XK) : FRes → Prop
  | .ok r outs => ∀ (A' : AS) (H' : Hp) v, Ext (BorL as vs) A H A' H' → (∀ a, A' a → H' a ≠ none) → OutsL K A' H' as outs vs → RetC K H A' H' r v → Q v H'
  | .exc c fs outs => ∀ (A' : AS) (H' : Hp) cls d, Ext (BorL as vs) A H A' H' → (∀ a, A' a → H' a ≠ none) → OutsL K A' H' as outs vs → ExcC mg K A' H' c fs cls d → E cls d H'
  | .fail => False
def spF (mg : Str → Option Value) (K : PySem.W.Frag) (n : Nat) (F : List Arg → FRes) : Sp := fun vs H Q E => ∃ (A : AS) (as : List Arg), as.length = n ∧ ArgsR K A H as vs ∧ DisL as vs ∧ (∀ a, A a → H a ≠ none) ∧ FPost mg K A H as vs Q E (F as)
def Arg.mv : Arg → Option MV
  | .d x => some (.d x)
  | .bor c => some (.cell .bor c)
def envOf (n : Nat) (as : List Arg) : SE := as.map Arg.mv ++ List.replicate (n - as.length) none
def outsOf : List Arg → SE → List Arg
  | [], _ => []
  | .d x :: as, e => .d x :: outsOf as e.tail
  | .bor c :: as, e => (match e with
    | some (.cell _ c') :: _ => .bor c'
    | _ => .bor c) :: outsOf as e.tail
def fnF (n : Nat) (f : SF) (as : List Arg) : FRes := match f (envOf n as) with
  | .ok (.nx, e) => .ok (.d .none) (outsOf as e)
  | .ok (.rt r, e) => .ok r (outsOf as e)
  | .exc c fs e => .exc c fs (outsOf as e)
  | _ => .fail
section
variable {K : PySem.W.Frag} {A : AS} {H : Hp}
theorem ArgsR.len : ∀ {as : List Arg} {vs : List V}, ArgsR K A H as vs → vs.length = as.length
  | [], _, h => by cases h; rfl
  | _ :: as, _, ⟨v, t, e, _, h⟩ => by rw [e, List.length_cons, List.length_cons, h.len]
theorem ArgsR.get : ∀ {as : List Arg} {vs : List V} {i : Nat} {a : Arg}, ArgsR K A H as vs → as[i]? = some a → ∃ v, vs[i]? = some v ∧ ArgR K A H a v
  | [], _, _, _, _, e => by simp at e
  | _ :: _, _, 0, _, ⟨v, t, rfl, h, _⟩, e => by simp at e; subst e; exact ⟨v, rfl, h⟩
  | _ :: as, _, i + 1, _, ⟨v, t, rfl, _, h⟩, e => by simpa using h.get (by simpa using e)
theorem borL_get : ∀ {as : List Arg} {vs : List V} {i : Nat} {c : Cell} {a : Addr}, as[i]? = some (.bor c) → vs[i]? = some (.ref a) → BorL as vs a
  | [], _, _, _, _, e, _ => by simp at e
  | _ :: _, [], _, _, _, _, e => by simp at e
  | x :: as, v :: vs, 0, c, a, e, e2 => by simp at e e2; subst e e2; exact .inl rfl
  | x :: as, v :: vs, i + 1, c, a, e, e2 => by
    have := borL_get (as := as) (vs := vs) (i := i) (by simpa using e) (by simpa using e2)
    cases x with
    | d y => exact this
    | bor y => exact .inr this
theorem disL_get : ∀ {as : List Arg} {vs : List V} {i j : Nat} {c c' : Cell} {a : Addr}, DisL as vs → as[i]? = some (.bor c) → as[j]? = some (.bor c') → vs[i]? = some (.ref a) → vs[j]? = some (.ref a) → i = j
  | [], _, _, _, _, _, _, _, e, _, _, _ => by simp at e
  | _ :: _, [], _, _, _, _, _, _, _, _, e, _ => by simp at e
  | x :: as, v :: vs, 0, 0, _, _, _, _, _, _, _, _ => rfl
  | x :: as, v :: vs, 0, j + 1, c, c', a, d, e1, e2, e3, e4 => by
    simp at e1 e3; subst e1 e3
    exact absurd (borL_get (i := j) (by simpa using e2) (by simpa using e4)) (d.1 a rfl)
  | x :: as, v :: vs, i + 1, 0, c, c', a, d, e1, e2, e3, e4 => by
    simp at e2 e4; subst e2 e4
    exact absurd (borL_get (i := i) (by simpa using e1) (by simpa using e3)) (d.1 a rfl)
  | x :: as, v :: vs, i + 1, j + 1, c, c', a, d, e1, e2, e3, e4 => by
    have d' : DisL as vs := by cases x with
      | d y => exact d
      | bor y => exact d.2
    rw [disL_get (i := i) (j := j) d' (by simpa using e1) (by simpa using e2) (by simpa using e3) (by simpa using e4)]
theorem outs_spec : ∀ {as : List Arg} {vs : List V} {e : SE}, vs.length = as.length → (∀ (i : Nat) c, as[i]? = some (.bor c) → ∃ a c', vs[i]? = some (.ref a) ∧ e[i]? = some (some (.cell .bor c')) ∧ A a ∧ CellR K A H c' a) → OutsL K A H as (outsOf as e) vs
  | [], _, _, _, _ => trivial
  | _ :: _, [], _, h, _ => by simp at h
  | .d x :: as, v :: vs, e, hl, h => by
    show OutsL K A H as (outsOf as e.tail) vs
    refine outs_spec (by simpa using hl) fun i c hc => ?_
    obtain ⟨a, c', h1, h2, h3⟩ := h (i + 1) c (by simpa using hc)
    exact ⟨a, c', by simpa using h1, by rw [List.getElem?_tail]; exact h2, h3⟩
  | .bor c0 :: as, v :: vs, e, hl, h => by
    obtain ⟨a, c', h1, h2, h3, h4⟩ := h 0 c0 rfl
    have ih : OutsL K A H as (outsOf as e.tail) vs := outs_spec (by simpa using hl) fun i c hc => by
      obtain ⟨a, c', h1, h2, h3⟩ := h (i + 1) c (by simpa using hc)
      exact ⟨a, c', by simpa using h1, by rw [List.getElem?_tail]; exact h2, h3⟩
    cases e with
    | nil => simp at h2
    | cons o r =>
      simp at h1 h2
      subst h2
      exact ⟨⟨a, h1, h3, h4⟩, ih⟩
end
theorem envOf_get {n : Nat} {as : List Arg} {i : Nat} {mv : MV} (h : (envOf n as)[i]? = some (some mv)) : ∃ a, as[i]? = some a ∧ a.mv = some mv := by
  unfold envOf at h
  by_cases hi : i < as.length
  · rw [List.getElem?_append_left (by simpa using hi), List.getElem?_map] at h
    cases e : as[i]? with
    | none => rw [e] at h; cases h
    | some a => rw [e] at h; simp at h; exact ⟨a, rfl, h⟩
  · rw [List.getElem?_append_right (by simpa using hi), List.getElem?_replicate] at h
    split at h <;> cases h
theorem start_get {N : List Str} {vs : List V} {i : Nat} {v : V} (h : vs[i]? = some v) : (L2.start N vs)[i]? = some (some v) := by
  have hi := (List.getElem?_eq_some_iff.mp h).1
  unfold L2.start
  rw [List.getElem?_append_left (by simpa using hi), List.getElem?_map, h]; rfl
theorem start_of {N : List Str} {vs : List V} {i : Nat} {v : V} (h : (L2.start N vs)[i]? = some (some v)) : vs[i]? = some v := by
  unfold L2.start at h
  by_cases hi : i < vs.length
  · rw [List.getElem?_append_left (by simpa using hi), List.getElem?_map] at h
    cases e : vs[i]? with
    | none => rw [e] at h; cases h
    | some a => rw [e] at h; simp at h; rw [h]
  · rw [List.getElem?_append_right (by simpa using hi), List.getElem?_replicate] at h
    split at h <;> cases h
/-- the body of a def, at its entry -/
theorem entry {X : Cx} {W : WX} {N : List Str} {as : List Arg} {vs : List V} {A : AS} {H : Hp} {Q : VK} {E : XK} {f : SF} (hle : as.length ≤ N.length) (ha : ArgsR X.K A H as vs) (hd : DisL as vs) (hdom : ∀ a, A a → H a ≠ none) (hW : W = fun cls d _ H => E cls d H) (hp : FPost X.mg X.K A H as vs Q E (fnF N.length f as)) :
    tS X W f { nx := fun _ H' => Q .non H', rt := Q } (L2.start N vs) H := by
  have hl := ha.len
  have ok : ({ A := A, H := H, st := L2.start N vs, env := envOf N.length as } : G).Ok X.K := by
    refine ⟨?_, fun i x h => ?_, fun i m c h => ?_, fun i j m c m' c' a h1 h2 h3 h4 => ?_, hdom⟩
    · show (L2.start N vs).length = (envOf N.length as).length
      unfold L2.start envOf
      simp [hl]
    · obtain ⟨a, h1, h2⟩ := envOf_get h
      obtain ⟨v, q1, q2⟩ := ha.get h1
      cases a with
      | d y => cases h2; exact ⟨v, start_get q1, q2⟩
      | bor c => cases h2
    · obtain ⟨a, h1, h2⟩ := envOf_get h
      obtain ⟨v, q1, q2⟩ := ha.get h1
      cases a with
      | d y => cases h2
      | bor c => cases h2; obtain ⟨b, rfl, q3, q4⟩ := q2; exact ⟨b, start_get q1, q3, q4⟩
    · obtain ⟨a1, q1, q2⟩ := envOf_get h1
      obtain ⟨a2, q3, q4⟩ := envOf_get h2
      cases a1 with
      | d y => cases q2
      | bor c => cases a2 with
        | d y => cases q4
        | bor c2 => exact disL_get hd q1 q3 (start_of h3) (start_of h4)
  refine ⟨{ A := A, H := H, st := L2.start N vs, env := envOf N.length as }, rfl, rfl, ok, ?_⟩
  have own : ∀ {a}, Own { A := A, H := H, st := L2.start N vs, env := envOf N.length as } a → ∃ (i : Nat) (c : Cell), (envOf N.length as)[i]? = some (some (.cell .bor c)) ∧ (L2.start N vs)[i]? = some (some (.ref a)) ∧ BorL as vs a := fun {a} ⟨i, m, c, h1, h2, h3⟩ => by
    obtain ⟨a1, q1, q2⟩ := envOf_get h1
    cases a1 with
    | d y => cases q2
    | bor c => cases q2; exact ⟨i, _, h1, h3, borL_get q1 (start_of h3)⟩
  have ext : ∀ {g' : G}, Stp { A := A, H := H, st := L2.start N vs, env := envOf N.length as } g' → Ext (BorL as vs) A H g'.A g'.H := fun {g'} s =>
    ⟨fun a o h n => s.ext.keep a o h fun z => n (own z).choose_spec.choose_spec.2.2, s.ext.tup, s.ext.frz, s.ext.dom, fun a h n => s.ext.av1 a h fun z => n (own z).choose_spec.choose_spec.2.2, s.ext.av2⟩
  have outs : ∀ {g' : G}, Stp { A := A, H := H, st := L2.start N vs, env := envOf N.length as } g' → g'.Ok X.K → OutsL X.K g'.A g'.H as (outsOf as g'.env) vs := fun {g'} s o => outs_spec hl fun i c hc => by
    obtain ⟨v, q1, a, rfl, q2, q3⟩ := ha.get hc
    have he : (envOf N.length as)[i]? = some (some (.cell .bor c)) := by
      unfold envOf
      rw [List.getElem?_append_left (by simpa using (List.getElem?_eq_some_iff.mp hc).1), List.getElem?_map, hc]; rfl
    obtain ⟨e1, c', e2⟩ := s.bor i c he
    obtain ⟨b, z1, z2, z3⟩ := o.cel i _ _ e2
    have e1 := e1.symm.trans z1
    have e3 := start_get (N := N) q1
    rw [e3] at e1; cases e1
    exact ⟨a, c', q1, e2, z2, z3⟩
  unfold fnF at hp
  show OutS X W _ (f (envOf N.length as)) _
  cases hf : f (envOf N.length as) with
  | ok y =>
    obtain ⟨x, env'⟩ := y
    rw [hf] at hp
    cases x with
    | nx => exact fun g' e s o => hp g'.A g'.H .non (ext s) o.dom (by rw [← e]; exact outs s o) (by show Dv _ _ _ _ _; simp only [Dv])
    | bk => exact hp.elim
    | ct => exact hp.elim
    | rt r =>
      refine fun g' v e s o rr => hp g'.A g'.H v (ext s) o.dom (by rw [← e]; exact outs s o) ?_
      cases r with
      | d x => exact rr
      | tmp c =>
        obtain ⟨a, h1, h2, h3, h4⟩ := rr
        refine ⟨a, h1, h2, h3, ?_⟩
        rcases h4 with h4 | ⟨h4, h5⟩
        · exact h4
        · rcases s.own a h4 with z | z
          · obtain ⟨i, c', z1, z2, z3⟩ := own z
            obtain ⟨y1, c2, y2⟩ := s.bor i c' z1
            exact absurd ⟨i, c2, y2, y1.trans z2⟩ h5
          · exact z
  | exc c fs env' =>
    rw [hf] at hp
    refine fun g' cls d e s o x => ?_
    rw [hW]
    exact hp g'.A g'.H cls d (ext s) o.dom (by rw [← e]; exact outs s o) x
  | fail => rw [hf] at hp; exact hp.elim
/-- THE RULE for a def -/
theorem fn_data {P : Program} {w : World} {K : PySem.W.Frag} {mg : Str → Option Value} {base : Heap} {x qual : Str} {st : Stmt} {f : Addr} {fd : FuncData} {N ps : List Str} {k : Nat} {fS : SF} (F : Fun K x qual st f fd) (S : FnScope N ps (defScope st))
    (hb : ∀ (cdv : Value) (A : Around) (outer : List Env) (s : Shared) (H : Hp) (E : XK), Room k (A.deeper (envOfC qual (defScope st) s.heap.objs.size f cdv)) → (A.deeper (envOfC qual (defScope st) s.heap.objs.size f cdv)).guards = some [] →
      FSs (cxOf (L2.CX P w) P w K mg base N qual (defScope st) f cdv A outer s H E) (defBody st) fS) : FnG P w K mg base (k + 1) f fd ps (spF mg K ps.length (fnF N.length fS)) := by
  refine fn_g F S (fun vs H Q E h => ?_) fun cdv A outer s H vs Q E hr hg h => ?_
  · obtain ⟨A, as, h1, h2, _⟩ := h
    rw [h2.len, h1]
  · obtain ⟨A0, as, h1, h2, h3, h4, h5⟩ := h
    have hpl : ps.length ≤ N.length := by have := congrArg List.length S.pre; rw [List.length_take] at this; omega
    exact ⟨_, (hb cdv A outer s H E hr hg).pss (fun cls d _ H => E cls d H) (takes_of rfl rfl rfl rfl) (passes_of rfl), entry (by rw [h1]; exact hpl) h2 h3 h4 rfl h5⟩
end BH

set_option maxRecDepth 100000
set_option maxHeartbeats 2000000
namespace BH
open PySem PySem.Spec PyProof.Rows L2

/-! ### a call of a def -/
inductive AV where
  | d (x : PyData)
  | ref (i : Nat)
abbrev AF := SE → Res (List AV × SE)
def AVR (K : PySem.W.Frag) (g : G) : AV → V → Prop
  | .d x, v => Dv K g.A g.H x v
  | .ref i, v => g.st[i]? = some (some v)
def AVsR (K : PySem.W.Frag) (g : G) : List AV → List V → Prop
  | [], vs => vs = []
  | a :: as, vs => ∃ v t, vs = v :: t ∧ AVR K g a v ∧ AVsR K g as t
def tAs (X : Cx) (W : WX) (f : AF) : TA := fun σ H Q => ∃ g : G, g.st = σ ∧ g.H = H ∧ g.Ok X.K ∧ Out X W g (f g.env) fun g' as => ∀ vs, AVsR X.K g' as vs → Q vs g'.H
structure FAs (X : Cx) (es : List Expr) (f : AF) : Prop where
  pa : ∀ W, Takes X W → PA X es (tAs X W f)
def aNil : AF := fun env => .ok ([], env)
def aDat (f : CF) (t : AF) : AF := fun env => (f env).bind fun p => (t p.2).bind fun q => .ok (.d p.1 :: q.1, q.2)
def aRef (i : Nat) (t : AF) : AF := fun env => match env[i]? with
  | some (some (.cell _ _)) => (t env).bind fun q => .ok (.ref i :: q.1, q.2)
  | _ => .fail
theorem FAs.go {X : Cx} {es : List Expr} {f : AF} (h : FAs X es f) {W : WX} (tk : Takes X W) {g : G} (ok : g.Ok X.K) {pos : Pos} {pins : List (Addr × Obj)} {s : Shared} (I : Inv X pins g.st g.H s) {P : G → List AV → Prop} (o : Out X W g (f g.env) P)
    {Q : List Value → Shared → Prop} (hQ : ∀ u s' g' x v, g'.st = g.st → Inv X pins g'.st g'.H s' → Vals v u → g'.Ok X.K → Stp g g' → AVsR X.K g' x v → P g' x → Q u s') :
    wpAny (model X.prog X.w) X.A (spliced (backTo pos (starEach es X.env))) Q X.xe s := by
  refine thn ((h.pa W tk).run pos pins s g.st g.H (fun v H' => ∃ g' x, g'.H = H' ∧ g'.st = g.st ∧ g'.Ok X.K ∧ Stp g g' ∧ AVsR X.K g' x v ∧ P g' x) I ⟨g, rfl, rfl, ok, o.imp fun g' x st e o p v r => ⟨g', x, rfl, e, o, st, r, p⟩⟩) ?_
  rintro u s' ⟨v, H', I', r, g', x, rfl, e, o', st, rr, p⟩
  exact hQ u s' g' x v e (e ▸ I') r o' st rr p
theorem fas_nil {X : Cx} : FAs X [] aNil := ⟨fun W tk => ⟨fun pos pins s σ H Q I hq => by
  obtain ⟨g, rfl, rfl, ok, o⟩ := hq
  exact pa_nil.run pos pins s g.st g.H Q I (o g rfl rfl (.refl g) ok [] rfl)⟩⟩
theorem fas_dat {X : Cx} {e : Expr} {es : List Expr} {f : CF} {t : AF} (h : FC X e f) (ht : FAs X es t) (hs : starEach (e :: es) X.env = (false, eval e X.env) :: starEach es X.env := by rfl) : FAs X (e :: es) (aDat f t) := by
  refine ⟨fun W tk => ⟨fun pos pins s σ H Q I hq => ?_⟩⟩
  obtain ⟨g, rfl, rfl, ok, o⟩ := hq
  rw [hs]
  show wpAny _ _ (spliced ((false, eval e X.env) :: backTo pos (starEach es X.env))) _ _ s
  refine Calls.spliced_cons (h.go tk ok I o.bind0 fun u s1 g1 x v e1 I1 r o1 st dv p => ?_)
  refine ht.go tk o1 I1 (p.rebase ok st e1).bind0 fun us s2 g2 xs vs e2 I2 r2 o2 st2 rr2 p2 => ?_
  exact ⟨v :: vs, g2.H, by rw [← e1, ← e2]; exact I2, .cons r r2, p2 g2 rfl e2 st2 o2 _ ⟨v, vs, rfl, st2.dv o1 dv, rr2⟩⟩
theorem fas_ref {X : Cx} {e : Expr} {es : List Expr} {i : Nat} {t : AF} (h : PE X e (tVar i)) (ht : FAs X es t) (hs : starEach (e :: es) X.env = (false, eval e X.env) :: starEach es X.env := by rfl) : FAs X (e :: es) (aRef i t) := by
  refine ⟨fun W tk => ⟨fun pos pins s σ H Q I hq => ?_⟩⟩
  obtain ⟨g, rfl, rfl, ok, o⟩ := hq
  rw [hs]
  show wpAny _ _ (spliced ((false, eval e X.env) :: backTo pos (starEach es X.env))) _ _ s
  unfold aRef at o
  split at o
  · rename_i m c hi
    obtain ⟨a, q1, _⟩ := ok.cel i m c hi
    refine Calls.spliced_cons (thn (h.run pins s g.st g.H (fun v H' => v = .ref a ∧ H' = g.H) I ⟨_, q1, rfl, rfl⟩) fun u s1 ⟨v, H1, I1, r, e1, e2⟩ => ?_)
    subst e1 e2
    refine ht.go tk ok I1 o.bind0 fun us s2 g2 xs vs e2 I2 r2 o2 st2 rr2 p2 => ?_
    exact ⟨.ref a :: vs, g2.H, by rw [← e2]; exact I2, .cons r r2, p2 g2 rfl e2 st2 o2 _ ⟨.ref a, vs, rfl, by show g2.st[i]? = _; rw [e2]; exact q1, rr2⟩⟩
  · exact o.elim
def refsOf : List AV → List Nat
  | [] => []
  | .d _ :: r => refsOf r
  | .ref i :: r => i :: refsOf r
def toArgs : List AV → SE → Option (List Arg)
  | [], _ => some []
  | .d x :: r, e => (toArgs r e).map fun t => .d x :: t
  | .ref i :: r, e => match e[i]? with
    | some (some (.cell .own c)) => (toArgs r e).map fun t => .bor c :: t
    | some (some (.cell .bor c)) => (toArgs r e).map fun t => .bor c :: t
    | _ => none
def putOut (e : SE) (i : Nat) (c : Cell) : SE := match e[i]? with
  | some (some (.cell m _)) => e.set i (some (.cell m c))
  | _ => e
def putOuts : List AV → List Arg → SE → SE
  | .ref i :: r, .bor c :: o, e => putOuts r o (putOut e i c)
  | .d _ :: r, _ :: o, e => putOuts r o e
  | _, _, e => e
def Ret.rv : Ret → RV
  | .d x => .d x
  | .tmp c => .tmp c
def fCallF (n : Nat) (F : List Arg → FRes) (fa : AF) : EF := fun env => (fa env).bind fun p => if (refsOf p.1).Nodup then match toArgs p.1 p.2 with
    | some as => if as.length = n then match F as with
      | .ok r outs => .ok (r.rv, putOuts p.1 outs p.2)
      | .exc c fs outs => .exc c fs (putOuts p.1 outs p.2)
      | .fail => .fail
      else .fail
    | none => .fail
  else .fail
section
variable {K : PySem.W.Frag} {g : G}
theorem args_spec (ok : g.Ok K) : ∀ {avs : List AV} {as : List Arg} {vs : List V}, AVsR K g avs vs → toArgs avs g.env = some as → ArgsR K g.A g.H as vs ∧ ∀ a, BorL as vs a → ∃ i ∈ refsOf avs, g.st[i]? = some (some (.ref a)) ∧ ∃ m c, g.env[i]? = some (some (.cell m c)) ∧ m ≠ .lock
  | [], as, vs, h, e => by
    cases e; cases h
    exact ⟨rfl, fun a z => z.elim⟩
  | .d x :: r, as, vs, ⟨v, t, e1, h1, h2⟩, e => by
    simp only [toArgs] at e
    cases he : toArgs r g.env with
    | none => rw [he] at e; cases e
    | some as' =>
      rw [he] at e; cases e
      obtain ⟨q1, q2⟩ := args_spec ok h2 he
      subst e1
      exact ⟨⟨v, t, rfl, h1, q1⟩, fun a z => q2 a z⟩
  | .ref i :: r, as, vs, ⟨v, t, e1, h1, h2⟩, e => by
    have h1 : g.st[i]? = some (some v) := h1
    have core : ∀ m c, g.env[i]? = some (some (.cell m c)) → m ≠ .lock → (toArgs r g.env).map (fun t => Arg.bor c :: t) = some as → ArgsR K g.A g.H as vs ∧ ∀ a, BorL as vs a → ∃ j ∈ refsOf (AV.ref i :: r), g.st[j]? = some (some (.ref a)) ∧ ∃ m c, g.env[j]? = some (some (.cell m c)) ∧ m ≠ .lock := fun m c hi hm e => by
      cases he : toArgs r g.env with
      | none => rw [he] at e; cases e
      | some as' =>
        rw [he] at e; cases e
        obtain ⟨q1, q2⟩ := args_spec ok h2 he
        obtain ⟨a, y1, y2, y3⟩ := ok.cel i m c hi
        rw [h1] at y1; cases y1
        subst e1
        refine ⟨⟨_, t, rfl, ⟨a, rfl, y2, y3⟩, q1⟩, fun b z => ?_⟩
        rcases z with z | z
        · cases z; exact ⟨i, by simp [refsOf], h1, m, c, hi, hm⟩
        · obtain ⟨j, z1, z2⟩ := q2 b z
          exact ⟨j, by simp [refsOf, z1], z2⟩
    simp only [toArgs] at e
    split at e
    · rename_i c hi; exact core _ c hi (by simp) e
    · rename_i c hi; exact core _ c hi (by simp) e
    · cases e
theorem dis_spec (ok : g.Ok K) : ∀ {avs : List AV} {as : List Arg} {vs : List V}, AVsR K g avs vs → toArgs avs g.env = some as → (refsOf avs).Nodup → DisL as vs
  | [], as, vs, h, e, _ => by cases e; cases h; trivial
  | .d x :: r, as, vs, ⟨v, t, e1, h1, h2⟩, e, nd => by
    simp only [toArgs] at e
    cases he : toArgs r g.env with
    | none => rw [he] at e; cases e
    | some as' =>
      rw [he] at e; cases e; subst e1
      have ih : DisL as' t := dis_spec (avs := r) ok h2 he nd
      exact ih
  | .ref i :: r, as, vs, ⟨v, t, e1, h1, h2⟩, e, nd => by
    have h1 : g.st[i]? = some (some v) := h1
    have nd : (i :: refsOf r).Nodup := nd
    have core : ∀ m c, g.env[i]? = some (some (.cell m c)) → (toArgs r g.env).map (fun t => Arg.bor c :: t) = some as → DisL as vs := fun m c hi e => by
      cases he : toArgs r g.env with
      | none => rw [he] at e; cases e
      | some as' =>
        rw [he] at e; cases e
        subst e1
        refine ⟨fun a ea z => ?_, dis_spec ok h2 he (List.nodup_cons.mp nd).2⟩
        obtain ⟨j, z1, z2, m', c', z3, _⟩ := (args_spec ok h2 he).2 a z
        subst ea
        have := ok.dis i j _ _ _ _ a hi z3 h1 z2
        subst this
        exact (List.nodup_cons.mp nd).1 z1
    simp only [toArgs] at e
    split at e
    · rename_i c hi; exact core _ c hi e
    · rename_i c hi; exact core _ c hi e
    · cases e
theorem putOut_len {e : SE} {i : Nat} {c : Cell} : (putOut e i c).length = e.length := by unfold putOut; split <;> simp
theorem putOut_ne {e : SE} {i j : Nat} {c : Cell} (h : j ≠ i) : (putOut e i c)[j]? = e[j]? := by
  unfold putOut; split
  · exact List.getElem?_set_ne (Ne.symm h)
  · rfl
theorem put_spec {A' : AS} {H' : Hp} (ok : g.Ok K) : ∀ {avs : List AV} {as outs : List Arg} {vs : List V} {env : SE}, AVsR K g avs vs → toArgs avs g.env = some as → (refsOf avs).Nodup → OutsL K A' H' as outs vs → (∀ i ∈ refsOf avs, env[i]? = g.env[i]?) →
    (putOuts avs outs env).length = env.length ∧ (∀ j, j ∉ refsOf avs → (putOuts avs outs env)[j]? = env[j]?) ∧
      ∀ j ∈ refsOf avs, ∃ m c c' a, g.env[j]? = some (some (.cell m c)) ∧ m ≠ .lock ∧ (putOuts avs outs env)[j]? = some (some (.cell m c')) ∧ g.st[j]? = some (some (.ref a)) ∧ A' a ∧ CellR K A' H' c' a ∧ BorL as vs a
  | [], as, outs, vs, env, h, e, nd, o, hs => by
    refine ⟨?_, fun j _ => ?_, fun j hj => by cases hj⟩ <;> (unfold putOuts; rfl)
  | .d x :: r, as, outs, vs, env, ⟨v, t, e1, h1, h2⟩, e, nd, o, hs => by
    simp only [toArgs] at e
    cases he : toArgs r g.env with
    | none => rw [he] at e; cases e
    | some as' =>
      rw [he] at e; cases e
      subst e1
      cases outs with
      | nil => exact o.elim
      | cons o1 os =>
        have o' : OutsL K A' H' as' os t := o
        have ih := put_spec (avs := r) (env := env) ok h2 he nd o' hs
        exact ih
  | .ref i :: r, as, outs, vs, env, ⟨v, t, e1, h1, h2⟩, e, nd, o, hs => by
    have h1 : g.st[i]? = some (some v) := h1
    have nd : (i :: refsOf r).Nodup := nd
    have hs0 : env[i]? = g.env[i]? := hs i (by simp [refsOf])
    have core : ∀ m c, g.env[i]? = some (some (.cell m c)) → m ≠ .lock → (toArgs r g.env).map (fun t => Arg.bor c :: t) = some as → (putOuts (.ref i :: r) outs env).length = env.length ∧ (∀ j, j ∉ refsOf (AV.ref i :: r) → (putOuts (.ref i :: r) outs env)[j]? = env[j]?) ∧
      ∀ j ∈ refsOf (AV.ref i :: r), ∃ m c c' a, g.env[j]? = some (some (.cell m c)) ∧ m ≠ .lock ∧ (putOuts (.ref i :: r) outs env)[j]? = some (some (.cell m c')) ∧ g.st[j]? = some (some (.ref a)) ∧ A' a ∧ CellR K A' H' c' a ∧ BorL as vs a := fun m c hi hm e => by
      cases he : toArgs r g.env with
      | none => rw [he] at e; cases e
      | some as' =>
        rw [he] at e; cases e
        subst e1
        cases outs with
        | nil => exact o.elim
        | cons o1 os =>
          cases o1 with
          | d y => exact o.elim
          | bor c1 =>
            obtain ⟨⟨a, rfl, p1, p2⟩, o'⟩ := (o : (∃ a, v = .ref a ∧ A' a ∧ CellR K A' H' c1 a) ∧ OutsL K A' H' as' os t)
            have hp : (putOut env i c1)[i]? = some (some (.cell m c1)) := by
              unfold putOut
              rw [hs0, hi]
              exact List.getElem?_set_self (by rw [hi] at hs0; exact (List.getElem?_eq_some_iff.mp hs0).1)
            obtain ⟨q1, q2, q3⟩ := put_spec (env := putOut env i c1) ok h2 he (List.nodup_cons.mp nd).2 o' fun j hj => by
              have hji : j ≠ i := fun z => (List.nodup_cons.mp nd).1 (by rw [← z]; exact hj)
              rw [putOut_ne hji]
              exact hs j (by simp [refsOf, hj])
            refine ⟨q1.trans putOut_len, fun j hj => ?_, fun j hj => ?_⟩
            · simp only [refsOf, List.mem_cons, not_or] at hj
              exact (q2 j hj.2).trans (putOut_ne hj.1)
            · by_cases z : j = i
              · subst z
                exact ⟨m, c, c1, a, hi, hm, (q2 j (List.nodup_cons.mp nd).1).trans hp, h1, p1, p2, .inl rfl⟩
              · have hj' : j ∈ refsOf r := by
                  simp only [refsOf, List.mem_cons] at hj
                  exact hj.resolve_left z
                obtain ⟨m', c2, c3, b, y1, y2, y3, y4, y5, y6, y7⟩ := q3 j hj'
                exact ⟨m', c2, c3, b, y1, y2, y3, y4, y5, y6, .inr y7⟩
    simp only [toArgs] at e
    split at e
    · rename_i c hi; exact core _ c hi (by simp) e
    · rename_i c hi; exact core _ c hi (by simp) e
    · cases e
/-- the state behind a call -/
theorem behind {A' : AS} {H' : Hp} {avs : List AV} {as outs : List Arg} {vs : List V} (ok : g.Ok K) (h : AVsR K g avs vs) (e : toArgs avs g.env = some as) (nd : (refsOf avs).Nodup) (x : Ext (BorL as vs) g.A g.H A' H') (hd : ∀ a, A' a → H' a ≠ none) (o : OutsL K A' H' as outs vs) :
    Stp g { A := A', H := H', st := g.st, env := putOuts avs outs g.env } ∧ ({ A := A', H := H', st := g.st, env := putOuts avs outs g.env } : G).Ok K := by
  obtain ⟨p1, p2, p3⟩ := put_spec (env := g.env) ok h e nd o fun _ _ => rfl
  have bo : ∀ a, BorL as vs a → Own g a := fun a z => by
    obtain ⟨i, _, z2, m, c, z3, z4⟩ := (args_spec ok h e).2 a z
    exact ⟨i, m, c, z3, z4, z2⟩
  have bA : ∀ a, BorL as vs a → g.A a := fun a z => Own.sub ok a (bo a z)
  have cl : ∀ {j : Nat} {m c}, (putOuts avs outs g.env)[j]? = some (some (.cell m c)) → ∃ c', g.env[j]? = some (some (.cell m c')) := fun {j m c} h => by
    by_cases hj : j ∈ refsOf avs
    · obtain ⟨m', c1, c2, a, y1, _, y3, _⟩ := p3 j hj
      rw [y3] at h; cases h
      exact ⟨_, y1⟩
    · rw [p2 j hj] at h; exact ⟨_, h⟩
  refine ⟨⟨⟨fun a o h n => x.keep a o h fun z => n (bo a z), x.tup, x.frz, x.dom, fun a h n => x.av1 a h fun z => n (bo a z), x.av2⟩, fun a z => ?_, fun a z => ?_, fun j c hj => ?_, fun j c hj => ?_⟩, ⟨ok.len.trans p1.symm, fun j y hj => ?_, fun j m c hj => ?_, fun i j m c m' c' a hi hj e1 e2 => ?_, hd⟩⟩
  · obtain ⟨j, m, c, z1, z2, z3⟩ := z
    obtain ⟨c', y⟩ := cl z1
    exact .inl ⟨j, m, c', y, z2, z3⟩
  · obtain ⟨j, m, c, z1, z3⟩ := z
    obtain ⟨c', y⟩ := cl z1
    exact .inl ⟨j, m, c', y, z3⟩
  · by_cases h : j ∈ refsOf avs
    · obtain ⟨m', c1, c2, a, y1, _, y3, _⟩ := p3 j h
      rw [hj] at y1; cases y1
      exact ⟨rfl, c2, y3⟩
    · exact ⟨rfl, c, by show (putOuts avs outs g.env)[j]? = _; rw [p2 j h]; exact hj⟩
  · by_cases h : j ∈ refsOf avs
    · obtain ⟨m', c1, c2, a, y1, y2, y3, _⟩ := p3 j h
      rw [hj] at y1; cases y1
      exact absurd rfl y2
    · exact ⟨rfl, by show (putOuts avs outs g.env)[j]? = _; rw [p2 j h]; exact hj⟩
  · by_cases h : j ∈ refsOf avs
    · obtain ⟨m', c1, c2, a, y1, y2, y3, _⟩ := p3 j h
      have hj : (putOuts avs outs g.env)[j]? = _ := hj
      rw [y3] at hj; cases hj
    · have hj : (putOuts avs outs g.env)[j]? = _ := hj
      rw [p2 j h] at hj
      obtain ⟨v, q1, q2⟩ := ok.dat j y hj
      exact ⟨v, q1, Dv.ext x bA y v q2⟩
  · by_cases h : j ∈ refsOf avs
    · obtain ⟨m', c1, c2, a, y1, y2, y3, y4, y5, y6, _⟩ := p3 j h
      have hj : (putOuts avs outs g.env)[j]? = _ := hj
      rw [y3] at hj; cases hj
      exact ⟨a, y4, y5, y6⟩
    · have hj : (putOuts avs outs g.env)[j]? = _ := hj
      rw [p2 j h] at hj
      obtain ⟨a, q1, q2, q3⟩ := ok.cel j m c hj
      have nb : ¬ BorL as vs a := fun z => by
        obtain ⟨i, z1, z2, m', c', z3, z4⟩ := (args_spec ok ‹AVsR K g avs vs› e).2 a z
        have := ok.dis i j _ _ _ _ a z3 hj z2 q1
        subst this
        exact h z1
      refine ⟨a, q1, x.av1 a q2 nb, ?_⟩
      cases c with
      | lst ys => obtain ⟨us, y1, y2⟩ := q3; exact ⟨us, x.keep _ _ y1 nb, Dvs.ext x bA ys us y2⟩
      | _ => exact q3.elim
  · obtain ⟨c1, q1⟩ := cl hi
    obtain ⟨c2, q2⟩ := cl hj
    exact ok.dis i j _ _ _ _ a q1 q2 e1 e2
end
/-- f(..) -/
theorem fe_call {X : Cx} {k n : Nat} {f : Addr} {fd : FuncData} {ps : List Str} {F : List Arg → FRes} {x : Str} {p pos : Pos} {e : Expr} {es : List Expr} {fa : AF} (Fn : FnG X.prog X.w X.K X.mg X.base k f fd ps (spF X.mg X.K n F)) (hr : Room k X.A) (hgd : X.A.guards = some []) (hg : Gl X x) (hm : X.mg x = some (.ref f)) (hk : PySem.W.keepIn X.K (.ref f) = true)
    (hb : Binds X.K fd ps []) (ha : FAs X (e :: es) fa) (hdb : (x == ("__debug__" : Str)) = false := by decide) (he : starEach (e :: es) X.env = (false, eval e X.env) :: starEach es X.env := by rfl) (hpl : (backTo pos (starEach es X.env)).any (·.1) = false := by rfl) :
    FE X (.Call (.Name x p) (e :: es) [] pos) (fCallF n F fa) := by
  refine ⟨fun W tk => ⟨fun pins s σ H Q I hq => ?_⟩⟩
  obtain ⟨g, rfl, rfl, ok, o⟩ := hq
  refine wpAny_Call_Name_kw (ld_glob I hg hm ?_ hdb)
  refine PySem.W.callWith_K (h₀ := X.base) I.ok.mod.kin hk (ha.go tk ok I o.bind0 fun us s1 g1 avs vs e1 I1 r o1 st rr q => ⟨I1.kIn, ?_⟩) he hpl
  split at q
  · rename_i nd
    change (refsOf avs).Nodup at nd
    split at q
    · rename_i as ea
      change toArgs avs g1.env = some as at ea
      split at q
      · rename_i hn
        rw [← e1]
        refine run_g Fn hr hgd hb (passAt tk g1.st) I1 r ⟨g1.A, as, hn, (args_spec o1 rr ea).1, dis_spec o1 rr ea nd, o1.dom, ?_⟩
        cases hF : F as with
        | ok ret outs =>
          rw [hF] at q
          intro A' H' v x hd ho hrt
          obtain ⟨s2, o2⟩ := behind o1 rr ea nd x hd ho
          refine q { A := A', H := H', st := g1.st, env := putOuts avs outs g1.env } rfl e1 (st.trans ok s2) o2 v ?_
          cases ret with
          | d y => exact hrt
          | tmp c =>
            obtain ⟨a, rfl, h1, h2, h3⟩ := hrt
            refine ⟨a, rfl, h1, h2, none_of_dom st.ext.dom h3, fun z => ?_⟩
            obtain ⟨i, m, c', z1, z2⟩ := z
            rcases s2.has a ⟨i, m, c', z1, z2⟩ with ⟨j, m2, c2, y1, y2⟩ | y
            · obtain ⟨b, w1, w2, w3⟩ := o1.cel j m2 c2 y1
              rw [y2] at w1; cases w1
              exact w3.some h3
            · obtain ⟨j, m2, c2, y1, y2⟩ := (⟨i, m, c', z1, z2⟩ : Has _ a)
              have : ∃ c', g1.env[j]? = some (some (.cell m2 c')) := by
                obtain ⟨p1, p2, p3⟩ := put_spec (env := g1.env) o1 rr ea nd ho fun _ _ => rfl
                have y1 : (putOuts avs outs g1.env)[j]? = _ := y1
                by_cases hj : j ∈ refsOf avs
                · obtain ⟨m', c1, c3, b, w1, _, w3, _⟩ := p3 j hj
                  rw [w3] at y1; cases y1; exact ⟨_, w1⟩
                · rw [p2 j hj] at y1; exact ⟨_, y1⟩
              obtain ⟨c3, y3⟩ := this
              obtain ⟨b, w1, w2, w3⟩ := o1.cel j m2 c3 y3
              have y2 : g1.st[j]? = _ := y2
              rw [y2] at w1; cases w1
              exact w3.some h3
        | exc c fs outs =>
          rw [hF] at q
          intro A' H' cls d x hd ho hx
          obtain ⟨s2, o2⟩ := behind o1 rr ea nd x hd ho
          have := q { A := A', H := H', st := g1.st, env := putOuts avs outs g1.env } cls d rfl e1 (st.trans ok s2) o2 hx
          show W cls d g1.st H'
          rw [e1]; exact this
        | fail => rw [hF] at q; exact q.elim
      · exact q.elim
    · exact q.elim
  · exact q.elim
end BH

set_option maxRecDepth 100000
set_option maxHeartbeats 2000000
namespace BH
open PySem PySem.Spec PyProof.Rows L2

/-! ### the law's own call -/
theorem law_data {P : Program} {w : World} {K : PySem.W.Frag} {mg mb : Str → Option Value} {k n : Nat} {fa a : Addr} {fd : FuncData} {x : Str} {F : List Arg → FRes} {s₁ : Shared} {vs : List Value} {ns : List Int}
    (inK : K.In s₁.heap) (nsG : s₁.heap.Ns mainGlobals mg) (nsB : s₁.heap.Ns builtinsNs mb) (boot : ∀ x : Str, x ≠ "__name__" → mb x = bootBuiltins x) (noL : s₁.heap.NoLimit) (noG : s₁.gens = #[])
    (hobj : s₁.heap.get? a = some { cls := .type "list", data := .seq vs.toArray }) (hin : IntsAre vs ns) (hl : ns.length ≤ sizeLine) (hr : Room k callerA)
    (Fn : ∀ base : Heap, K.In base → base.Ns mainGlobals mg → FnG P w K mg base k fa fd [x] (spF mg K 1 F)) (hbind : ∀ (s : Shared) (u : Value), BindsTo s fd ⟨[u], []⟩ [(x, u)])
    (hF : ∃ outs, F [.d (.list (ns.map PyData.int))] = .ok (.d (.bool true)) outs) :
    codeAny (model P w) callerA (.call (.ref fa) ⟨[.ref a], []⟩) (fun r s' => r = .ok (.ret (.bool true)) ∧ OldK s₁.heap s'.heap ∧ s'.os = s₁.os ∧ AllBare s'.gens) s₁ := by
  have vals := vals_ints hin
  have vlen := hin.length
  have main : ∀ H : Hp, Only H → LsD K (fun _ => False) H a (ns.map V.int) → HOk P w H s₁.heap → (∀ b, H b ≠ none → b = a) → (H a ≠ none → K.lookup a = none) →
      codeAny (model P w) callerA (.call (.ref fa) ⟨[.ref a], []⟩) (fun r s' => r = .ok (.ret (.bool true)) ∧ OldK s₁.heap s'.heap ∧ s'.os = s₁.os ∧ AllBare s'.gens) s₁ := by
    intro H only hS hok onlyA freeK
    have inBase : ∀ {b : Addr} {o : Obj}, s₁.heap.get? b = some o → H b = none → (hidT s₁.heap H).get? b = some o := hidT_get
    have notDict : ∀ {b : Addr} {o : Obj} {es : Array DictEntry} {ep : Nat}, s₁.heap.get? b = some o → o.data = .dict es ep → H b = none := by
      intro b o es ep e1 e2
      by_cases z : H b = none
      · exact z
      · rw [onlyA b z, hobj] at e1
        cases e1
        have e3 : Data.seq vs.toArray _ = Data.dict es ep := e2
        cases e3
    have nsIn : ∀ {b : Addr} {m : Str → Option Value}, s₁.heap.Ns b m → (hidT s₁.heap H).Ns b m := by
      rintro b m ⟨o, es, ep, e1, e2, e3⟩
      exact ⟨o, es, ep, inBase e1 (notDict e1 e2), e2, e3⟩
    have baseK : K.In (hidT s₁.heap H) := by
      intro b o e1
      refine inBase (inK b o e1) ?_
      by_cases z : H b = none
      · exact z
      · have eb := onlyA b z
        subst eb
        rw [freeK z] at e1; cases e1
    have modB : Mod K mg (hidT s₁.heap H) := ⟨baseK, nsIn nsG, ⟨mb, nsIn nsB, boot⟩, let ⟨mc, y1, y2⟩ := noL; ⟨mc, nsIn y1, y2⟩⟩
    have env0 : Env0 P w K mg (hidT s₁.heap H) callerA [] s₁ H := ⟨rfl, modB, fun b o e => of_hidT e, Nat.le_of_eq (hidT_size _ _), trivial, fun b hb => absurd (show b ∈ ([] : List Addr) from hb) (by simp), hok, .of_eq noG⟩
    obtain ⟨outs, eF⟩ := hF
    have spec : spF mg K 1 F [.ref a] H (fun v _ => v = .bl true) fun _ _ _ => False := by
      refine ⟨fun _ => False, [.d (.list (ns.map PyData.int))], rfl, ⟨.ref a, [], rfl, ?_, rfl⟩, trivial, fun _ z => z.elim, ?_⟩
      · show Dv _ _ _ _ _
        simp only [Dv]
        refine ⟨a, ns.map V.int, rfl, hS, ?_⟩
        clear hS hin hobj hl eF vlen vals
        induction ns with
        | nil => simp only [List.map_nil, Dvs]
        | cons i r ih => exact Dvs.cons (by simp only [Dv]) ih
      · rw [eF]
        intro A' H' v _ _ _ hv
        have hv : Dv K A' H' (.bool true) v := hv
        simp only [Dv] at hv
        exact hv
    refine codeAny_mono ((Fn _ baseK (nsIn nsG)).go callerA [] s₁ H ⟨[.ref a], []⟩ [.ref a] [.ref a] _ _ hr rfl env0 (hbind s₁ (.ref a)) (.cons rfl .nil) spec) fun r s' h => ?_
    match r, h with
    | .error e, h => obtain ⟨_, _, _, _, _, _, _, _, _, _, _, _, z⟩ := (h : L2.CX P w [] H s₁ _ e s'); exact z.elim
    | .ok (.ret u), h =>
      obtain ⟨v, H', os, bare, un, hok', rv, ev⟩ := h
      have ev : v = .bl true := ev
      subst ev
      obtain rfl : u = Value.bool true := rv
      refine ⟨rfl, OldK.of_keep fun b o e => ?_, os, bare⟩
      rcases only b with z | ⟨ob, xs, z⟩
      · exact un.keep b o e z (by intro q; exact absurd (show b ∈ ([] : List Addr) from q) (by simp)) (by simp)
      · obtain ⟨y1, _⟩ := hok b _ z
        obtain ⟨y2, _⟩ := hok' b _ (un.frzs b ob _ z)
        rw [e] at y1; cases y1
        exact y2
  cases hk : K.lookup a with
  | some o =>
    have e := inK a o hk
    rw [hobj] at e
    cases e
    refine main (fun _ => none) (fun _ => .inl rfl) (.inr fun _ => .inr ⟨_, vs.toArray, _, hk, rfl, rfl, rfl, by rw [List.size_toArray, vlen]; exact hl, by simpa using vals⟩) (fun b u z => by cases (show (none : Option HO) = some u from z)) (fun b z => absurd rfl z) fun z => absurd rfl z
  | none =>
    refine main (fun b => if b = a then some (.frz { cls := .type "list", data := .seq vs.toArray } (.lst (ns.map V.int))) else none) (fun b => ?_) (.inl ⟨id, .inr ⟨{ cls := .type "list", data := .seq vs.toArray }, if_pos rfl⟩⟩) (fun b u z => ?_) (fun b z => ?_) fun _ => hk
    · by_cases q : b = a
      · exact .inr ⟨_, _, if_pos q⟩
      · exact .inl (if_neg q)
    · by_cases q : b = a
      · cases (if_pos q).symm.trans z
        subst q
        exact ⟨hobj, by rw [List.length_map]; exact hl, vs, _, vals, hobj⟩
      · cases (if_neg q).symm.trans z
    · by_cases q : b = a
      · exact q
      · exact absurd (if_neg q) z
theorem walk_data {l : PySem.W.OpenLaw} {n k : Nat} {q : Program} {loose : List Str} {XP : (Str → Option Value) → Heap → Prop} {YP : World → Heap → Prop} {d : DefRec} {K : Params → PySem.W.Frag} {x : Str} {F : List Arg → FRes}
    (hn : l.most = some n) (hn2 : n ≤ sizeLine) (hdf : d.params.defaults = []) (hr : Room k callerA) (hY : ∀ (w : World) (h : Heap), YP w h → (K w.params).In h)
    (Fn : ∀ (w : World) (mg : Str → Option Value) (fa : Addr) (h : Heap), (K w.params).In h → h.Ns mainGlobals mg → mg d.name = some (.ref fa) →
      ∃ fd : FuncData, (∀ (s : Shared) (u : Value), BindsTo s fd ⟨[u], []⟩ [(x, u)]) ∧ ∀ base : Heap, (K w.params).In base → base.Ns mainGlobals mg → FnG l.prog w (K w.params) mg base k fa fd [x] (spF mg (K w.params) 1 F))
    (hF : ∀ ns : List Int, ns.length ≤ n → ∃ outs, F [.d (.list (ns.map PyData.int))] = .ok (.d (.bool true)) outs) :
    PySem.W.WalkO q loose XP YP l.row.toRowW d [] (fun f vs => PySem.call f vs) := by
  refine Att.attach_call hn hdf fun w s₀ s₁ mg mb fa o pm cd doc a vs ns G Y ho hd hcd hmg hobj hints hlen hg => ?_
  obtain ⟨fd, hb, hFn⟩ := Fn w mg fa _ (hY w _ Y) G.T.g hmg
  exact law_data (n := n) (hY w _ Y) G.T.g G.T.b G.T.builtins G.T.nolimit hg hobj hints (Nat.le_trans hlen hn2) hr hFn hb (hF ns hlen)
end BH

set_option maxRecDepth 100000
set_option maxHeartbeats 2000000
namespace BH
open PySem PySem.Spec PyProof.Rows L2

/-- x = [.. for ..], x a plain local name -/
theorem fs_setLc {X : Cx} {i : Nat} {y : Str} {py : Pos} {elt tg iter : Expr} {ifs : List Expr} {scope : Scope} {own : List (Str × Nat)} {pos spos : Pos} {fi : IF} {vb : List Nat} {b : BF} {tt : TF} {te : CF} (hc : X.calm = true) (hN : X.N.Nodup) (hi' : X.N[i]? = some y) (hy : X.env.scope.names.lookup y = some .local)
    (hsw : swapsWith (.ListComp elt [⟨tg, iter, ifs, 0⟩] scope pos) (some (.Name y py)) spos.line X.env = pure true) (hi : FI X tg iter fi) (ok : BlkOk X.N X.env.scope scope own)
    (hg : ∀ (s : Shared) (H : Hp) (C : Addr) (cl : List (Str × Addr)) (fp : List Addr), FG (X.blk s H scope (compEnvC scope cl C X.env) fp) tg vb b) (ht : ∀ (s : Shared) (H : Hp) (C : Addr) (cl : List (Str × Addr)) (fp : List Addr), FTs (X.blk s H scope (compEnvC scope cl C X.env) fp) ifs tt)
    (he : ∀ (s : Shared) (H : Hp) (C : Addr) (cl : List (Str × Addr)) (fp : List Addr), FC (X.blk s H scope (compEnvC scope cl C X.env) fp) elt te) (hsub : ∀ i ∈ vb, i ∈ own.map (·.2) := by decide)
    (hs : ∀ x, foldedSetIterable iter X.env x = pure x := by first | exact fun _ => rfl | assumption) : FS X (.Assign [.Name y py] (.ListComp elt [⟨tg, iter, ifs, 0⟩] scope pos) spos) (fSet i (fComp fi b (own.map (·.2)) tt te)) := by
  refine ⟨fun W tk hp => ⟨fun pins s σ H D I hq => ?_⟩⟩
  obtain ⟨g, rfl, rfl, o1, o⟩ := hq
  refine (ps_setLc (X := X) (wi := tIt X W fi) (g := tBd X vb b) (tt := tTt X (fun _ _ _ _ => False) tt) (te := tCn X (fun _ _ _ _ => False) te) hc hN hi' hy hsw (hi.pi W tk) ok (fun s H C cl fp => (hg s H C cl fp).pg) (fun s H C cl fp => (ht s H C cl fp).pts _ takes0) (fun s H C cl fp => (he s H C cl fp).pe _ takes0) hs).run pins s g.st g.H D I ?_
  exact comp_core hsub o1 ((OutS.bindE o).imp fun g1 rv st e o2 p v rr => set_end o1 st e o2 rr p)
def fNeg (f : EF) : EF := fun env => (f env).bind fun p => match p.1.view p.2 with
  | some (.int i) => .ok (.d (.int (-i)), p.2)
  | _ => .fail
theorem fe_neg {X : Cx} {a : Expr} {f : EF} {pos : Pos} (h : FE X a f) : FE X (.UnaryOp .USub a pos) (fNeg f) := by
  refine ⟨fun W tk => ⟨fun pins s σ H Q I hq => ?_⟩⟩
  obtain ⟨g, rfl, rfl, ok, o⟩ := hq
  refine (pe_un un_neg (h.pe W tk)).run pins s g.st g.H Q I ⟨g, rfl, rfl, ok, o.bind0.imp fun g1 rv st e o1 p v rr => ?_⟩
  split at p
  · rename_i i hi
    obtain rfl := dw_int (rr.dw o1 hi)
    exact ⟨i, rfl, p g1 rfl e st o1 _ (by show Dv _ _ _ _ _; simp only [Dv])⟩
  · exact p.elim
def fDic0 : EF := fC (.dict [])
theorem fe_dict0 {X : Cx} {pos : Pos} : FE X (.Dict [] [] pos) fDic0 := by
  refine ⟨fun W tk => ⟨fun pins s σ H Q I hq => ?_⟩⟩
  obtain ⟨g, rfl, rfl, ok, o⟩ := hq
  refine pe_dnewK.run pins s g.st g.H Q I fun p hp => ?_
  have e : ∀ O, Ext O g.A g.H g.A (upd g.H p (.dK [])) := fun O => alloc_ext hp
  refine o { g with H := upd g.H p (.dK []) } rfl rfl (Stp.same e) (ok.ext (e _) (fun _ h => h) (fun a h => (e (fun _ => False)).dom a (ok.dom a h))) (.ref p) ?_
  show Dv _ _ _ _ _
  simp only [Dv]
  exact ⟨trivial, p, rfl, fun z => ok.dom p z hp, upd_same⟩
end BH

set_option maxRecDepth 100000
set_option maxHeartbeats 4000000
namespace BH
open PySem PySem.Spec PyProof.Rows L2

/-! ### a list of lists of our own, its items to be written -/
structure TbI (H0 : Hp) (g : G) (p : Addr) (as : List Addr) (wss : List (List Int)) : Prop where
  nd : as.Nodup
  pn : p ∉ as
  ln : as.length = wss.length
  it : ∀ (i : Nat) a ws, as[i]? = some a → wss[i]? = some ws → g.H a = some (.lst (ws.map V.int)) ∧ ¬ g.A a ∧ H0 a = none
structure Tb (H0 : Hp) (g : G) (p : Addr) (as : List Addr) (wss : List (List Int)) : Prop where
  hp : g.H p = some (.lst (as.map V.ref))
  np : ¬ g.A p
  fp : H0 p = none
  i : TbI H0 g p as wss
theorem off_keep {K : PySem.W.Frag} {g g' : G} {a : Addr} {o : HO} (ok : g.Ok K) (s : Stp g g') (h : g.H a = some o) (n : ¬ g.A a) : g'.H a = some o ∧ ¬ g'.A a := by
  refine ⟨s.ext.keep a o h fun z => n (Own.sub ok a z), fun z => ?_⟩
  rcases s.ext.av2 a z with y | y
  · exact n y
  · rw [h] at y; cases y
theorem TbI.get {H0 : Hp} {g : G} {p : Addr} {as : List Addr} {wss : List (List Int)} (t : TbI H0 g p as wss) {a : Addr} (h : a ∈ as) : ∃ (i : Nat) (ws : List Int), as[i]? = some a ∧ wss[i]? = some ws ∧ g.H a = some (.lst (ws.map V.int)) ∧ ¬ g.A a ∧ H0 a = none := by
  obtain ⟨i, hi⟩ := List.getElem?_of_mem h
  have hl : i < wss.length := by rw [← t.ln]; exact (List.getElem?_eq_some_iff.mp hi).1
  have hw : wss[i]? = some wss[i] := List.getElem?_eq_getElem hl
  obtain ⟨h1, h2, h3⟩ := t.it i a _ hi hw
  exact ⟨i, _, hi, hw, h1, h2, h3⟩
theorem TbI.step {K : PySem.W.Frag} {H0 : Hp} {g g' : G} {p : Addr} {as : List Addr} {wss : List (List Int)} (t : TbI H0 g p as wss) (ok : g.Ok K) (s : Stp g g') : TbI H0 g' p as wss :=
  ⟨t.nd, t.pn, t.ln, fun i a ws h1 h2 => by
    obtain ⟨q1, q2, q3⟩ := t.it i a ws h1 h2
    obtain ⟨y1, y2⟩ := off_keep ok s q1 q2
    exact ⟨y1, y2, q3⟩⟩
theorem Tb.step {K : PySem.W.Frag} {H0 : Hp} {g g' : G} {p : Addr} {as : List Addr} {wss : List (List Int)} (t : Tb H0 g p as wss) (ok : g.Ok K) (s : Stp g g') : Tb H0 g' p as wss := by
  obtain ⟨y1, y2⟩ := off_keep ok s t.hp t.np
  exact ⟨y1, y2, t.fp, t.i.step ok s⟩
def tabD (wss : List (List Int)) : PyData := .list (wss.map fun ws => .list (ws.map PyData.int))
theorem dvs_intsA {K : PySem.W.Frag} {A : AS} {H : Hp} : ∀ (ns : List Int), Dvs K A H (ns.map PyData.int) (ns.map V.int)
  | [] => by simp only [List.map_nil, Dvs]
  | n :: r => Dvs.cons (by simp only [Dv]) (dvs_intsA r)
theorem ints_dvs {K : PySem.W.Frag} {A : AS} {H : Hp} : ∀ {ns : List Int} {vs : List V}, Dvs K A H (ns.map PyData.int) vs → vs = ns.map V.int
  | [], vs, h => by simp only [List.map_nil, Dvs] at h; exact h
  | n :: r, vs, h => by
    simp only [List.map_cons, Dvs] at h
    obtain ⟨v, t, rfl, h1, h2⟩ := h
    simp only [Dv] at h1
    rw [h1, ints_dvs h2]; rfl
theorem items_dv {K : PySem.W.Frag} {A : AS} {H : Hp} : ∀ {as : List Addr} {wss : List (List Int)}, as.length = wss.length → (∀ (i : Nat) a ws, as[i]? = some a → wss[i]? = some ws → H a = some (.lst (ws.map V.int)) ∧ ¬ A a) → Dvs K A H (wss.map fun ws => .list (ws.map PyData.int)) (as.map V.ref)
  | [], [], _, _ => by simp only [List.map_nil, Dvs]
  | [], _ :: _, h, _ => by simp at h
  | _ :: _, [], h, _ => by simp at h
  | a :: as, ws :: wss, h, hi => by
    obtain ⟨h1, h2⟩ := hi 0 a ws rfl rfl
    refine Dvs.cons ?_ (items_dv (by simpa using h) fun i a ws e1 e2 => hi (i + 1) a ws (by simpa using e1) (by simpa using e2))
    simp only [Dv]
    exact ⟨a, _, rfl, .inl ⟨h2, .inl h1⟩, dvs_intsA ws⟩
theorem Tb.dv {K : PySem.W.Frag} {H0 : Hp} {g : G} {p : Addr} {as : List Addr} {wss : List (List Int)} (t : Tb H0 g p as wss) : Dv K g.A g.H (tabD wss) (.ref p) := by
  unfold tabD
  simp only [Dv]
  exact ⟨p, _, rfl, .inl ⟨t.np, .inl t.hp⟩, items_dv t.i.ln fun i a ws h1 h2 => ⟨(t.i.it i a ws h1 h2).1, (t.i.it i a ws h1 h2).2.1⟩⟩

/-! ### [[..] for ..] -/
def cLoop2 (b : BF) (vs : List Nat) (te : EF) : List PyData → SE → List (List Int) → Res (List (List Int) × SE)
  | [], env, acc => .ok (acc, env)
  | x :: xs, env, acc => if noCell env vs = true then match b x (wipeE env vs) with
    | none => .fail
    | some e1 => match te e1 with
      | .ok (.tmp (.lst ys), e3) => match intsOf ys with
        | some ns => if acc.length < lim then cLoop2 b vs te xs (restE env vs e3) (acc ++ [ns]) else .fail
        | none => .fail
      | _ => .fail
    else .fail
def fTab (fi : IF) (b : BF) (vs : List Nat) (te : EF) : SE → Res (List (List Int) × SE) := fun env => (fi env).bind fun p => match cLoop2 b vs te p.1.1 (lockAll p.1.2 p.2) [] with
  | .ok (acc, e) => .ok (acc, unlockAll p.1.2 p.2 e)
  | .exc _ _ _ => .fail
  | .fail => .fail
theorem free_step {K : PySem.W.Frag} {g0 g : G} {a : Addr} (ok : g0.Ok K) (s : Stp g0 g) (h : g0.H a = none) : Stp g0 (g.free a) :=
  ⟨⟨s.ext.keep, s.ext.tup, s.ext.frz, s.ext.dom, fun b h1 h2 => ⟨s.ext.av1 b h1 h2, fun z => ok.dom b h1 (by rw [z]; exact h)⟩, fun b h1 => s.ext.av2 b h1.1⟩, s.own, s.has, s.bor, s.lck⟩
theorem comp_core2 {X : Cx} {own : List (Str × Nat)} {fi : IF} {vb : List Nat} {b : BF} {te : EF} (hsub : ∀ i ∈ vb, i ∈ own.map (·.2)) {W : WX} {g : G} {Q : VK} (ok : g.Ok X.K) (o : Out X W g (fTab fi b (own.map (·.2)) te g.env) fun g' acc => ∀ p as, Tb g.H g' p as acc → Q (.ref p) g'.H) :
    tLc (tIt X W fi) (tBd X vb b) (tTt X (fun _ _ _ _ => False) fYes) (tE X (fun _ _ _ _ => False) te) (own.map (·.2)) g.st g.H Q := by
  generalize own.map (·.2) = vs at *
  refine ⟨g, rfl, rfl, ok, o.bind0.imp fun g1 p st e o1 q J L hL hJ D hD => ?_⟩
  obtain ⟨ds, lk⟩ := p
  obtain ⟨S, s0, sx, sd, sj⟩ := hJ
  cases hr : cLoop2 b vs te ds (lockAll lk g1.env) [] with
  | exc c fs env' => rw [hr] at q; exact q.elim
  | fail => rw [hr] at q; exact q.elim
  | ok y =>
  obtain ⟨fin, envF⟩ := y
  rw [hr] at q
  simp only at q
  have oL : (lockG lk g1).Ok X.K := ok_lockAll lk o1
  obtain ⟨sB1, sB2, a0, ha0, hA0, hC0, hf0, hh0⟩ := alloc_lst (g := lockG lk g1) oL hD Dvs.nil
  cases ha0
  have hLD : ∀ a, L a → a ≠ D := fun a la z => sd _ _ s0 a la (by rw [z]; exact hD)
  have hne : ∀ {a o}, g1.H a = some o → a ≠ D := fun {a o} h z => by rw [z, hD] at h; cases h
  have sS : S (fun b => g1.A b ∨ b = D) (upd g1.H D (.lst [])) := sx (fun _ => False) _ _ _ _ s0 ⟨fun a o h _ => by rw [upd_ne (hne h)]; exact h, sB1.ext.tup, sB1.ext.frz, sB1.ext.dom, fun a h _ => .inl h, sB1.ext.av2⟩ (fun _ z => z.elim) (fun _ _ z => z)
  refine ⟨fun i m H => m = ds.length - i ∧ i ≤ ds.length ∧ ∃ (g2 : G) (acc : List (List Int)) (as : List Addr), g2.st = g.st ∧ g2.H = H ∧ g2.Ok X.K ∧ Stp (lockG lk g1) g2 ∧ S g2.A g2.H ∧ g2.A D ∧ g2.H D = some (.lst (as.map V.ref)) ∧ TbI g1.H g2 D as acc ∧ ¬ Has g2 D ∧ cLoop2 b vs te (ds.drop i) g2.env acc = .ok (fin, envF),
    ⟨ds.length, rfl, Nat.zero_le _, _, [], [], ?_, ?_, sB2, sB1, sS, .inr rfl, upd_same, ⟨List.nodup_nil, by simp, rfl, fun i a ws h _ => by simp at h⟩, hh0, hr⟩, ?_⟩
  · exact e
  · rfl
  rintro i m H' ⟨rfl, hle, g2, acc, as, k1, rfl, o2, s2, ss, hA, hH, hd, hh, oo⟩
  by_cases hlt : i < ds.length
  · obtain ⟨go, yl⟩ := (sj _ _ ss).1 i _ (List.getElem?_eq_getElem hlt)
    rw [List.drop_eq_getElem_cons hlt] at oo
    simp only [cLoop2] at oo
    split at oo
    · rename_i nc
      refine .inr ⟨go, _, fun H' z => ⟨ds.length - (i + 1), by omega, z⟩, fun x H' hy => ?_⟩
      obtain ⟨ex, dv⟩ := yl x H' hy
      have s3 : Stp g2 { g2 with H := H' } := Stp.same ex
      have o3 : ({ g2 with H := H' } : G).Ok X.K := o2.ext (ex _) (fun _ h => h) (fun a h => (ex (fun _ => False)).dom a (o2.dom a h))
      have h3 : H' D = some (.lst (as.map V.ref)) := (ex (fun _ => False)).keep D _ hH id
      cases hb1 : b ds[i] (wipeE g2.env vs) with
      | none => rw [hb1] at oo; cases oo
      | some env1 =>
        rw [hb1] at oo
        simp only at oo
        rw [← k1]
        refine ⟨wipeG vs { g2 with H := H' }, ds[i], env1, rfl, rfl, ok_wipe o3, dv, hb1, fun g4 e4 a4 f4 s4 o4 h4 => ?_⟩
        have hw : wipe g4.st vs = wipe g2.st vs := wipe_same (by rw [f4.1]; exact wipe_length _ _) fun j hj => by
          rw [(f4.2.2 j fun z => hj (hsub j z)).1]
          exact wipe_out hj
        refine ⟨hw, g4, rfl, rfl, o4, ?_⟩
        rw [e4]
        intro g5 e5 q5 s5 o5
        show if true = true then _ else _
        rw [if_pos rfl]
        refine ⟨g5, q5, rfl, o5, ?_⟩
        rw [e5]
        split at oo
        · rename_i ys e3 hte
          split at oo
          · rename_i ns hns
            split at oo
            · rename_i hlen
              rw [hte]
              intro g6 e6 q6 s6 o6 v rr
              obtain ⟨a, rfl, aA, ⟨vs', aH, aD⟩, aF, aN⟩ := rr
              have hys := intsOf_map hns
              subst hys
              have hvs := ints_dvs aD
              subst hvs
              have s36 := (s4.trans (ok_wipe o3) s5).trans (ok_wipe o3) s6
              have s35 := s4.trans (ok_wipe o3) s5
              obtain ⟨r1, r2, r3⟩ := rest_step (g := { g2 with H := H' }) o3 nc s36 o6 (by rw [q6, q5]; exact hw)
              have s26 := s3.trans o2 r1
              have nh : ¬ Has (wipeG vs { g2 with H := H' }) D := fun z => hh (has_wipe z)
              have no : ¬ Own (wipeG vs { g2 with H := H' }) D := fun ⟨i, m, c, q1, _, q2⟩ => nh ⟨i, m, c, q1, q2⟩
              have hD5 : g5.H D ≠ none := by rw [s35.ext.keep D _ h3 no]; simp
              have aD' : D ≠ a := fun z => by rw [z] at hD5; exact hD5 aF
              have aL : (lockG lk g1).H a = none := none_of_dom (fun b hb => s35.ext.dom b ((ex (fun _ => False)).dom b (s2.ext.dom b hb))) aF
              have hD6 : g6.H D = some (.lst (as.map V.ref)) := s36.ext.keep D _ h3 no
              have hA6 : g6.A D := s36.ext.av1 D hA no
              have nH6 : ¬ Has { g6 with st := g2.st, env := restE g2.env vs g6.env } D := fun z => by
                rcases s36.has D (r3 D z) with y | y
                · exact nh y
                · exact absurd y (by show H' D ≠ none; rw [h3]; simp)
              have S6 : S g6.A g6.H := sx (Own g2) _ _ _ _ ss s26.ext (Own.sub o2) fun b lb ob => by
                rcases s2.own b ob with z | z
                · exact hL b lb z
                · exact sd _ _ s0 b lb z
              have t6 : TbI g1.H { g6 with st := g2.st, env := restE g2.env vs g6.env } D as acc := hd.step o2 s26
              have aNew : a ∉ as := fun z => by
                obtain ⟨j, ws, _, _, y3, y4, _⟩ := hd.get z
                have y5 := (off_keep o2 (s3.trans o2 (Stp.refl _)) y3 y4).1
                have y5 : H' a = _ := y5
                have na : ¬ Own (wipeG vs { g2 with H := H' }) a := fun w => y4 (Own.sub o2 a (own_wipe w : Own { g2 with H := H' } a))
                have := s35.ext.keep a _ y5 na
                rw [aF] at this; cases this
              have nHa : ¬ Has { g6 with st := g2.st, env := restE g2.env vs g6.env } a := fun z => aN (r3 a z)
              have o7 := r2.free nHa
              have s7 : Stp (lockG lk g1) (G.free { g6 with st := g2.st, env := restE g2.env vs g6.env } a) := free_step oL (s2.trans oL s26) aL
              have S7 : S (fun b => g6.A b ∧ b ≠ a) g6.H := sx (fun b => b = a) _ _ _ _ S6 ⟨fun _ _ h _ => h, fun _ _ h => h, fun _ _ _ h => h, fun _ h => h, fun b h n => ⟨h, n⟩, fun b h => .inl h.1⟩ (fun b z => by rw [z]; exact aA) fun b lb z => by
                have z : b = a := z
                rw [z] at lb
                exact sd _ _ s0 a lb aL
              obtain ⟨b1, b2, b3⟩ := bump (g0 := lockG lk g1) (g := G.free { g6 with st := g2.st, env := restE g2.env vs g6.env } a) (ws' := (as ++ [a]).map V.ref) o7 ⟨hA6, aD'⟩ nH6 hD6 hD s7
              have sub : ∀ b, b = D → (G.free { g6 with st := g2.st, env := restE g2.env vs g6.env } a).A b := fun b z => by rw [z]; exact ⟨hA6, aD'⟩
              refine ⟨as.map V.ref, hD6, by rw [List.length_map, hd.ln, ← lim_line]; exact hlen, rfl, hlt, { g6 with A := fun b => g6.A b ∧ b ≠ a, st := g2.st, env := restE g2.env vs g6.env, H := upd g6.H D (.lst ((as ++ [a]).map V.ref)) }, acc ++ [ns], as ++ [a], rfl, by simp, b3, b2, sx (fun b => b = D) _ _ _ _ S7 b1 sub (fun b lb z => hLD b lb z), ⟨hA6, aD'⟩, upd_same, ?_, nH6, ?_⟩
              · refine ⟨?_, ?_, by simp [hd.ln], fun j b ws h1 h2 => ?_⟩
                · rw [List.nodup_append]
                  refine ⟨hd.nd, by simp, fun x hx y hy z => ?_⟩
                  rw [List.mem_singleton] at hy
                  exact aNew (by rw [← hy, ← z]; exact hx)
                · simp only [List.mem_append, List.mem_singleton, not_or]
                  exact ⟨hd.pn, aD'⟩
                · by_cases hj : j < as.length
                  · rw [List.getElem?_append_left hj] at h1
                    rw [List.getElem?_append_left (by rw [← hd.ln]; exact hj)] at h2
                    obtain ⟨y1, y2, y3⟩ := t6.it j b ws h1 h2
                    have hbD : b ≠ D := fun z => hd.pn (by rw [← z]; exact List.mem_of_getElem? h1)
                    exact ⟨by show upd g6.H D _ b = _; rw [upd_ne hbD]; exact y1, fun z => y2 z.1, y3⟩
                  · have hlj : j = as.length := by
                      have := (List.getElem?_eq_some_iff.mp h1).1
                      simp at this
                      omega
                    subst hlj
                    rw [List.getElem?_append_right (Nat.le_refl _)] at h1
                    rw [hd.ln, List.getElem?_append_right (Nat.le_refl _)] at h2
                    simp at h1 h2
                    subst h1 h2
                    exact ⟨by show upd g6.H D _ a = _; rw [upd_ne (Ne.symm aD')]; exact aH, fun z => z.2 rfl, aL⟩
              · show cLoop2 b vs te _ (restE g2.env vs g6.env) _ = _
                rw [e6]; exact oo
            · cases oo
          · cases oo
        · cases oo
    · cases oo
  · have hi : i = ds.length := by omega
    subst hi
    refine .inl ⟨(sj _ _ ss).2, ?_⟩
    simp only [List.drop_length, cLoop2, Res.ok.injEq, Prod.mk.injEq] at oo
    obtain ⟨rfl, rfl⟩ := oo
    obtain ⟨s3, o3⟩ := unlock_all lk o1 s2 o2
    have nh3 : ¬ Has { g2 with env := unlockAll lk g1.env g2.env } D := fun z => hh (has_unlock lk o1 o2 s2 z)
    refine q (G.free { g2 with env := unlockAll lk g1.env g2.env } D) rfl k1 (free_step ok (st.trans ok s3) (none_of_dom st.ext.dom hD)) (o3.free nh3) D as ⟨hH, fun z => z.2 rfl, none_of_dom st.ext.dom hD, hd.nd, hd.pn, hd.ln, fun j a ws h1 h2 => ?_⟩
    obtain ⟨y1, y2, y3⟩ := hd.it j a ws h1 h2
    exact ⟨y1, fun z => y2 z.1, none_of_dom st.ext.dom y3⟩
end BH

set_option maxRecDepth 100000
set_option maxHeartbeats 4000000
namespace BH
open PySem PySem.Spec PyProof.Rows L2

def flatD : PyData → Bool
  | .none => true
  | .bool _ => true
  | .int _ => true
  | .str _ => true
  | _ => false
def flatO : Option MV → Bool
  | none => true
  | some (.d x) => flatD x
  | some (.cell _ (.lst xs)) => xs.all flatD
  | _ => false
def flatAll (env : SE) : Bool := env.all flatO
theorem dv_flat {K : PySem.W.Frag} {A A' : AS} {H H' : Hp} {x : PyData} {v : V} (f : flatD x = true) (h : Dv K A H x v) : Dv K A' H' x v := by
  cases x <;> simp [flatD] at f <;> simpa only [Dv] using h
theorem dvs_flat {K : PySem.W.Frag} {A A' : AS} {H H' : Hp} : ∀ {xs : List PyData} {vs : List V}, xs.all flatD = true → Dvs K A H xs vs → Dvs K A' H' xs vs
  | [], vs, _, h => by simp only [Dvs] at h ⊢; exact h
  | x :: xs, vs, f, h => by
    simp only [List.all_cons, Bool.and_eq_true] at f
    simp only [Dvs] at h
    obtain ⟨v, t, rfl, h1, h2⟩ := h
    exact Dvs.cons (dv_flat f.1 h1) (dvs_flat f.2 h2)
theorem flat_get {env : SE} {i : Nat} {o : Option MV} (h : flatAll env = true) (e : env[i]? = some o) : flatO o = true := List.all_eq_true.mp h o (List.mem_of_getElem? e)
theorem nodup_inj {α : Type} : ∀ {l : List α} {i j : Nat} {x : α}, l.Nodup → l[i]? = some x → l[j]? = some x → i = j
  | [], i, _, _, _, h, _ => by simp at h
  | y :: l, 0, 0, _, _, _, _ => rfl
  | y :: l, 0, j + 1, x, nd, h1, h2 => by
    simp at h1 h2; subst h1
    exact absurd (List.mem_of_getElem? h2) (List.nodup_cons.mp nd).1
  | y :: l, i + 1, 0, x, nd, h1, h2 => by
    simp at h1 h2; subst h2
    exact absurd (List.mem_of_getElem? h1) (List.nodup_cons.mp nd).1
  | y :: l, i + 1, j + 1, x, nd, h1, h2 => by
    rw [nodup_inj (i := i) (j := j) (x := x) (List.nodup_cons.mp nd).2 (by simpa using h1) (by simpa using h2)]
/-- an item of an item is written -/
theorem tab_set {K : PySem.W.Frag} {g0 g : G} {p a : Addr} {as : List Addr} {wss : List (List Int)} {ws : List Int} {rw ro jn kn : Nat} {z : Int} (ok : g.Ok K) (s : Stp g0 g) (t : Tb g0.H g p as wss) (hst : g.st[rw]? = some (some (.ref p))) (ne : ro ≠ rw)
    (nc : noCell g.env [ro, rw] = true) (fl : flatAll ((g.env.set ro none).set rw none) = true) (ha : as[jn]? = some a) (hw : wss[jn]? = some ws) :
    let g' : G := { A := g.A, H := upd g.H a (.lst ((ws.set kn z).map V.int)), st := g.st.set ro (some (.ref a)), env := (g.env.set ro none).set rw (some (.d (tabD (wss.set jn (ws.set kn z))))) }
    (rw < g.env.length) → g'.Ok K ∧ Stp g0 g' ∧ Tb g0.H g' p as (wss.set jn (ws.set kn z)) ∧ g'.st[rw]? = some (some (.ref p)) := by
  intro g' hlr
  obtain ⟨h1, h2, h3⟩ := t.i.it jn a ws ha hw
  have pa : p ≠ a := fun e => t.i.pn (by rw [e]; exact List.mem_of_getElem? ha)
  have hj : jn < wss.length := (List.getElem?_eq_some_iff.mp hw).1
  have tb : Tb g0.H g' p as (wss.set jn (ws.set kn z)) := by
    refine ⟨by show upd g.H a _ p = _; rw [upd_ne pa]; exact t.hp, t.np, t.fp, t.i.nd, t.i.pn, by rw [List.length_set]; exact t.i.ln, fun i b ws' e1 e2 => ?_⟩
    by_cases e : i = jn
    · subst e
      rw [ha] at e1; cases e1
      rw [List.getElem?_set_self hj] at e2; cases e2
      exact ⟨upd_same, h2, h3⟩
    · rw [List.getElem?_set_ne (Ne.symm e)] at e2
      obtain ⟨y1, y2, y3⟩ := t.i.it i b ws' e1 e2
      have ba : b ≠ a := fun q => by
        subst q
        exact e (nodup_inj t.i.nd e1 ha)
      exact ⟨by show upd g.H a _ b = _; rw [upd_ne ba]; exact y1, y2, y3⟩
  have hst' : g'.st[rw]? = some (some (.ref p)) := by
    show (g.st.set ro _)[rw]? = _
    rw [List.getElem?_set_ne ne]; exact hst
  have get : ∀ {j : Nat} {mv : MV}, g'.env[j]? = some (some mv) → (j = rw ∧ mv = .d (tabD (wss.set jn (ws.set kn z)))) ∨ (j ≠ rw ∧ j ≠ ro ∧ g.env[j]? = some (some mv) ∧ g'.st[j]? = g.st[j]? ∧ ((g.env.set ro none).set rw none)[j]? = some (some mv)) := fun {j mv} h => by
    have h : ((g.env.set ro none).set rw (some (.d (tabD (wss.set jn (ws.set kn z))))))[j]? = some (some mv) := h
    by_cases e : j = rw
    · subst e
      rw [List.getElem?_set_self (by simpa using hlr)] at h
      simp only [Option.some.injEq] at h
      exact .inl ⟨rfl, h.symm⟩
    · rw [List.getElem?_set_ne (Ne.symm e)] at h
      by_cases e2 : j = ro
      · subst e2
        rw [List.getElem?_set] at h
        simp only [if_true] at h
        split at h <;> simp at h
      · have h' := h
        rw [List.getElem?_set_ne (Ne.symm e2)] at h
        exact .inr ⟨e, e2, h, by show (g.st.set ro _)[j]? = _; rw [List.getElem?_set_ne (Ne.symm e2)], by rw [List.getElem?_set_ne (Ne.symm e)]; exact h'⟩
  have cl : ∀ {j : Nat} {m c}, g'.env[j]? = some (some (.cell m c)) → g.env[j]? = some (some (.cell m c)) ∧ g'.st[j]? = g.st[j]? ∧ ((g.env.set ro none).set rw none)[j]? = some (some (.cell m c)) := fun {j m c} h => by
    rcases get h with ⟨_, h⟩ | ⟨_, _, h, h2, h3⟩
    · cases h
    · exact ⟨h, h2, h3⟩
  have lc : ∀ {j : Nat} {m c}, g.env[j]? = some (some (.cell m c)) → g'.env[j]? = some (some (.cell m c)) ∧ g'.st[j]? = g.st[j]? := fun {j m c} h => by
    have n1 : j ≠ ro := fun e => noCell_not nc (i := j) (by simp [e]) h
    have n2 : j ≠ rw := fun e => noCell_not nc (i := j) (by simp [e]) h
    refine ⟨?_, ?_⟩
    · show ((g.env.set ro none).set rw _)[j]? = _
      rw [List.getElem?_set_ne (Ne.symm n2), List.getElem?_set_ne (Ne.symm n1)]; exact h
    · show (g.st.set ro _)[j]? = _
      rw [List.getElem?_set_ne (Ne.symm n1)]
  refine ⟨⟨?_, fun j x h => ?_, fun j m c h => ?_, fun i j m c m' c' b hi hj e1 e2 => ?_, fun b hb => ?_⟩, ⟨⟨fun b o h n => ?_, fun b o h => ?_, fun b o u h => ?_, fun b h => ?_, s.ext.av1, s.ext.av2⟩, fun b h => ?_, fun b h => ?_, fun j c h => ?_, fun j c h => ?_⟩, tb, hst'⟩
  · show (g.st.set ro _).length = ((g.env.set ro none).set rw _).length
    simp [ok.len]
  · rcases get h with ⟨e, h⟩ | ⟨_, _, h, h2, h3⟩
    · cases h; subst e
      exact ⟨.ref p, hst', tb.dv⟩
    · obtain ⟨v, q1, q2⟩ := ok.dat j x h
      exact ⟨v, h2.trans q1, dv_flat (flat_get fl h3) q2⟩
  · obtain ⟨h1', h2', h3'⟩ := cl h
    obtain ⟨b, q1, q2, q3⟩ := ok.cel j m c h1'
    have ba : b ≠ a := fun e => h2 (by rw [← e]; exact q2)
    refine ⟨b, h2'.trans q1, q2, ?_⟩
    cases c with
    | lst xs =>
      obtain ⟨us, y1, y2⟩ := q3
      exact ⟨us, by show upd g.H a _ b = _; rw [upd_ne ba]; exact y1, dvs_flat (flat_get fl h3') y2⟩
    | _ => exact q3.elim
  · obtain ⟨y1, y2, _⟩ := cl hi
    obtain ⟨w1, w2, _⟩ := cl hj
    exact ok.dis i j m c m' c' b y1 w1 (y2.symm.trans e1) (w2.symm.trans e2)
  · show upd g.H a _ b ≠ none
    rw [upd_ne (fun e => h2 (by rw [← e]; exact hb))]
    exact ok.dom b hb
  · show upd g.H a _ b = _
    rw [upd_ne (fun e => by rw [e, h3] at h; cases h)]
    exact s.ext.keep b o h n
  · show upd g.H a _ b = _
    rw [upd_ne (fun e => by rw [e, h3] at h; cases h)]
    exact s.ext.tup b o h
  · show upd g.H a _ b = _
    rw [upd_ne (fun e => by rw [e, h3] at h; cases h)]
    exact s.ext.frz b o u h
  · show upd g.H a _ b ≠ none
    rw [upd_ne (fun e => h (by rw [e]; exact h3))]
    exact s.ext.dom b h
  · obtain ⟨j, m, c, q1, q2, q3⟩ := h
    obtain ⟨y1, y2, _⟩ := cl q1
    exact s.own b ⟨j, m, c, y1, q2, y2.symm.trans q3⟩
  · obtain ⟨j, m, c, q1, q3⟩ := h
    obtain ⟨y1, y2, _⟩ := cl q1
    exact s.has b ⟨j, m, c, y1, y2.symm.trans q3⟩
  · obtain ⟨e1, c', e2⟩ := s.bor j c h
    obtain ⟨y1, y2⟩ := lc e2
    exact ⟨y2.trans e1, c', y1⟩
  · obtain ⟨e1, e2⟩ := s.lck j c h
    obtain ⟨y1, y2⟩ := lc e2
    exact ⟨y2.trans e1, y1⟩
def fixLoop (test : TF) (call : EF) (rw ro ki : Nat) : List PyData → SE → List (List Int) → Res (List (List Int) × SE)
  | [], env, wss => .ok (wss, env)
  | x :: xs, env, wss => match bName ki x env with
    | none => .fail
    | some e1 => match test e1 with
      | .ok (false, e2) => fixLoop test call rw ro ki xs e2 wss
      | .ok (true, e2) => match call e2 with
        | .ok (.d (.int j), e3) => match e3[ki]?, ixN wss.length j with
          | some (some (.d (.int k))), some jn => match wss[jn]? with
            | some ws => match ixN ws.length k with
              | some kn => if (flatAll ((e3.set ro none).set rw none) && noCell e3 [ro, rw]) = true ∧ rw < e3.length ∧ ro < e3.length then
                  fixLoop test call rw ro ki xs ((e3.set ro none).set rw (some (.d (tabD (wss.set jn (ws.set kn 1)))))) (wss.set jn (ws.set kn 1))
                else .fail
              | none => .fail
            | none => .fail
          | _, _ => .fail
        | _ => .fail
      | _ => .fail
def fRows (fi : IF) (b : BF) (vs : List Nat) (te : EF) (f2 : EFs) (test : TF) (call : EF) (rw ro ki : Nat) (rest : SF) : SF := fun env => (fTab fi b vs te env).bind fun p => match setS p.2 rw (.d (tabD p.1)) with
  | none => .fail
  | some env1 => (f2 env1).bind fun q => match views q.1 q.2 with
    | some [.int n] => if rngG n then (fixLoop test call rw ro ki (rangeD 0 n.toNat) q.2 p.1).bind fun r => rest r.2 else .fail
    | _ => .fail
theorem rangeD_get {n i : Nat} (h : i < (rangeD 0 n).length) : (rangeD 0 n)[i] = .int (0 + (i : Nat)) := by
  unfold rangeD
  simp
theorem seq_asg {te : TE} {i : Nat} {rest : TS} {D : Ends} {σ : L2.St} {H : Hp} (h : te σ H fun x H1 => rest D (σ.set i (some x)) H1) : tSeq (tAsg te (gName i)) rest D σ H := by
  unfold tSeq tAsg gName
  exact h
theorem fss_rows {X : Cx} {rw ro ki : Nat} {y yk yr : Str} {py pk pr pc pyr pys psub psp p1 p2 p3 p4 p5 pif pfor : Pos} {jc : Nat} {elt tg iter a2 test call : Expr} {scope : Scope} {own : List (Str × Nat)} {pos spos : Pos} {fi : IF} {vb : List Nat} {b : BF} {te : EF} {f2 : EFs} {ftest : TF} {fcall : EF} {rest : List Stmt} {frest : SF}
    (hc : X.calm = true) (hN : X.N.Nodup) (hi1 : X.N[rw]? = some y) (hy : X.env.scope.names.lookup y = some .local) (hsw : swapsWith (.ListComp elt [⟨tg, iter, [], 0⟩] scope pos) (some (.Name y py)) spos.line X.env = pure true)
    (hi : FI X tg iter fi) (okb : BlkOk X.N X.env.scope scope own) (hg : ∀ (s : Shared) (H : Hp) (C : Addr) (cl : List (Str × Addr)) (fp : List Addr), FG (X.blk s H scope (compEnvC scope cl C X.env) fp) tg vb b)
    (he : ∀ (s : Shared) (H : Hp) (C : Addr) (cl : List (Str × Addr)) (fp : List Addr), FE (X.blk s H scope (compEnvC scope cl C X.env) fp) elt te) (hsub : ∀ i ∈ vb, i ∈ own.map (·.2)) (hs : ∀ x, foldedSetIterable iter X.env x = pure x)
    (hgr : Gl X "range") (hmr : X.mg "range" = none) (ha2 : FPs X [a2] f2) (hsa : starEach [a2] X.env = [(false, eval a2 X.env)]) (hs2 : ∀ x, foldedSetIterable (.Call (.Name "range" pr) [a2] [] pc) X.env x = pure x)
    (hik : X.N[ki]? = some yk) (hlk : Loc X.env.scope yk) (hfk : X.fn yk = true ∨ X.env.scope.names.lookup yk = some .local) (ht : FT X test ftest) (hcall : FE X call fcall) (hpi : PlainIx call)
    (hir : X.N[ro]? = some yr) (hlr : Loc X.env.scope yr) (hfr : X.fn yr = true ∨ X.env.scope.names.lookup yr = some .local) (hsr : swapsWith (.Subscript (.Name y pys) call psub) (some (.Name yr pyr)) psp.line X.env = pure false)
    (vr : PE X (.Name y pys) (tVar rw)) (vo : PE X (.Name yr p1) (tVar ro)) (vk : PE X (.Name yk p2) (tVar ki)) (ne1 : ro ≠ rw) (ne2 : ki ≠ rw) (ne3 : ki ≠ ro)
    (hs5 : swapsWithSole [.Subscript (.Name yr p1) (.Name yk p2) p3] (.Constant (.int 1) jc p4) p5.line X.env = pure false) (hw5 : swappedStores [.Subscript (.Name yr p1) (.Name yk p2) p3] (.Constant (.int 1) jc p4) X.env = pure none)
    (h15 : (assignEach [.Subscript (.Name yr p1) (.Name yk p2) p3] X.env).map (·.2) = [assign (.Subscript (.Name yr p1) (.Name yk p2) p3) X.env])
    (ha5 : ∀ v, assign (.Subscript (.Name yr p1) (.Name yk p2) p3) X.env v = (do
      let ov ← holding [v] (eval (.Name yr p1) X.env)
      let iv ← holding [v, ov] (eval (.Name yk p2) X.env)
      standAt p3
      holding [v, ov, iv] (setItem ov iv v)
      release [v, ov, iv] []))
    (hrest : FSs X rest frest) :
    FSs X (.Assign [.Name y py] (.ListComp elt [⟨tg, iter, [], 0⟩] scope pos) spos ::
      .For (.Name yk pk) (.Call (.Name "range" pr) [a2] [] pc) [.If test [.Assign [.Name yr pyr] (.Subscript (.Name y pys) call psub) psp, .Assign [.Subscript (.Name yr p1) (.Name yk p2) p3] (.Constant (.int 1) jc p4) p5] [] pif] [] pfor :: rest)
      (fRows fi b (own.map (·.2)) te f2 ftest fcall rw ro ki frest) := by
  refine ⟨fun W tk hp => ⟨fun pins s σ H D I hq => ?_⟩⟩
  obtain ⟨g, rfl, rfl, ok, o⟩ := hq
  have P1 := ps_setLc (X := X) (i := rw) (wi := tIt X W fi) (g := tBd X vb b) (tt := tTt X (fun _ _ _ _ => False) fYes) (te := tE X (fun _ _ _ _ => False) te) hc hN hi1 hy hsw (hi.pi W tk) okb (fun s H C cl fp => (hg s H C cl fp).pg) (fun s H C cl fp => (fts_nil (X := X.blk s H scope (compEnvC scope cl C X.env) fp)).pts _ takes0) (fun s H C cl fp => (he s H C cl fp).pe _ takes0) hs
  have P2 := ps_for (X := X) (pos := pfor) hp hc (pi_range1 (p := pr) (pos := pc) hgr hmr (ha2.pa W tk) hsa) (pg_name (pos := pk) hN hik hlk hfk)
    (pss_one (ps_if (pos := pif) (ht.pt W tk) (pss_cons (ps_set (i := ro) hN hir hlr (pe_ix (X := X) ix_list vr (hcall.pe W tk) hpi) hsr hfr) (pss_one (ps_asg (X := X) (pos := p5) pe_int (pg_sub vo vk set_list ha5) hs5 hw5 h15))) pss_nil)) hs2
  refine (pss_cons P1 (pss_cons P2 (hrest.pss W tk hp))).run pins s g.st g.H D I ?_
  refine seq_asg (comp_core2 hsub ok ((OutS.bindE o).imp fun g1 wss st e o1 p pA as tb => ?_))
  cases hset : setS g1.env rw (.d (tabD wss)) with
  | none => rw [hset] at p; exact p.elim
  | some env1 =>
  rw [hset] at p
  simp only at p
  obtain ⟨s2, o2⟩ := set_data o1 tb.dv hset
  have tb2 := tb.step o1 s2
  have st02 := st.trans ok s2
  have hl : rw < g1.env.length := setS_lt hset
  have hst2 : (g1.st.set rw (some (V.ref pA)))[rw]? = some (some (.ref pA)) := List.getElem?_set_self (by rw [o1.len]; exact hl)
  refine ⟨{ g1 with st := g1.st.set rw (some (.ref pA)), env := env1 }, by rw [← e], rfl, o2, ?_⟩
  show Out X W _ (f2 env1) _
  cases hf2 : f2 env1 with
  | fail => rw [hf2] at p; exact p.elim
  | exc c fs env' =>
    rw [hf2] at p
    intro g' cls d e1 e2 s' o' x'
    have := p g' cls d e1 (st02.trans ok s') o' x'
    rw [e2] at this
    exact this
  | ok q =>
  obtain ⟨q, env3⟩ := q
  rw [hf2] at p
  have p : OutS X W g (match views q env3 with
    | some [.int n] => if rngG n then (fixLoop ftest fcall rw ro ki (rangeD 0 n.toNat) env3 wss).bind fun r => frest r.2 else .fail
    | _ => .fail) D := p
  intro g3 e3 q3 s3 o3 vs rr
  subst e3
  have tb3 := tb2.step o2 s3
  have st03 := st02.trans ok s3
  split at p
  · rename_i n hv
    obtain ⟨v, rfl, hx⟩ := dws1 (rr.dws o3 hv)
    obtain rfl := dw_int hx
    split at p
    · rename_i hr
      refine ⟨n, rfl, hr.1, hr.2, fun i m σ H => m = n.toNat - i ∧ i ≤ n.toNat ∧ ∃ (g4 : G) (wss : List (List Int)), g4.st = σ ∧ g4.H = H ∧ g4.Ok X.K ∧ Stp g g4 ∧ Tb g.H g4 pA as wss ∧ g4.st[rw]? = some (some (.ref pA)) ∧ OutS X W g ((fixLoop ftest fcall rw ro ki ((rangeD 0 n.toNat).drop i) g4.env wss).bind fun r => frest r.2) D,
        ⟨n.toNat, rfl, Nat.zero_le _, g3, wss, ?_, rfl, o3, st03, tb3, ?_, p⟩, ?_⟩
      · rw [q3, ← e]
      · rw [q3]; exact hst2
      rintro i m σ H ⟨rfl, hle, g4, wss, rfl, rfl, o4, s4, t4, hst4, oo⟩
      have hlen : (rangeD 0 n.toNat).length = n.toNat := by unfold rangeD; simp
      by_cases hlt : i < n.toNat
      · have hlt' : i < (rangeD 0 n.toNat).length := by rw [hlen]; exact hlt
        rw [List.drop_eq_getElem_cons hlt', rangeD_get hlt'] at oo
        simp only [fixLoop] at oo
        refine .inr ⟨hlt, fun σ H => ∃ (g4 : G) (wss : List (List Int)), g4.st = σ ∧ g4.H = H ∧ g4.Ok X.K ∧ Stp g g4 ∧ Tb g.H g4 pA as wss ∧ g4.st[rw]? = some (some (.ref pA)) ∧ OutS X W g ((fixLoop ftest fcall rw ro ki ((rangeD 0 n.toNat).drop (i + 1)) g4.env wss).bind fun r => frest r.2) D,
          fun σ' H' z => ⟨n.toNat - (i + 1), by omega, rfl, hlt, z⟩, fun x H' hy => ?_⟩
        obtain ⟨rfl, rfl⟩ := hy
        cases hb : bName ki (.int (0 + (i : Nat))) g4.env with
        | none => rw [hb] at oo; exact oo.elim
        | some e1 =>
          rw [hb] at oo
          simp only at oo
          obtain ⟨s5, o5⟩ := set_data (v := .int (0 + (i : Nat))) o4 (by simp only [Dv]) hb
          have t5 := t4.step o4 s5
          have s05 := s4.trans ok s5
          have hst5 : (g4.st.set ki (some (V.int (0 + (i : Nat)))))[rw]? = some (some (.ref pA)) := by rw [List.getElem?_set_ne ne2]; exact hst4
          refine ⟨{ g4 with st := g4.st.set ki (some (.int (0 + (i : Nat)))), env := e1 }, rfl, rfl, o5, ?_⟩
          show Out X W _ (ftest e1) _
          cases htt : ftest e1 with
          | fail => rw [htt] at oo; exact oo.elim
          | exc c fs env' => rw [htt] at oo; exact oo.elim
          | ok z =>
            obtain ⟨bb, e2⟩ := z
            rw [htt] at oo
            intro g6 e6 q6 s6 o6
            have t6 := t5.step o5 s6
            have s06 := s05.trans ok s6
            have hst6 : g6.st[rw]? = some (some (.ref pA)) := by rw [q6]; exact hst5
            cases bb with
            | false =>
              simp only at oo
              exact ⟨g6, wss, q6, rfl, o6, s06, t6, hst6, by rw [e6]; exact oo⟩
            | true =>
              simp only at oo
              show if true = true then _ else _
              rw [if_pos rfl]
              refine ⟨.ref pA, hst5, g6, q6, rfl, o6, ?_⟩
              rw [e6]
              cases hcc : fcall e2 with
              | fail => rw [hcc] at oo; exact oo.elim
              | exc c fs env' => rw [hcc] at oo; exact oo.elim
              | ok z =>
                obtain ⟨rv, e3⟩ := z
                rw [hcc] at oo
                split at oo
                · rename_i j e3' hrv
                  cases hrv
                  intro g7 e7 q7 s7 o7 v rr7
                  have rr7 : Dv X.K g7.A g7.H (.int j) v := rr7
                  simp only [Dv] at rr7
                  subst rr7
                  have t7 := t6.step o6 s7
                  have s07 := s06.trans ok s7
                  have hst7 : g7.st[rw]? = some (some (.ref pA)) := by rw [q7]; exact hst6
                  split at oo
                  · rename_i k jn hk hjn
                    split at oo
                    · rename_i ws hws
                      split at oo
                      · rename_i kn hkn
                        split at oo
                        · rename_i hcond
                          obtain ⟨hfl, hlrw, hlro⟩ := hcond
                          simp only [Bool.and_eq_true] at hfl
                          have hja : jn < as.length := by rw [t7.i.ln]; exact (List.getElem?_eq_some_iff.mp hws).1
                          have haj : as[jn]? = some as[jn] := List.getElem?_eq_getElem hja
                          obtain ⟨y1, y2, y3⟩ := t7.i.it jn _ ws haj hws
                          rw [← e7] at hfl hk hlrw hlro
                          obtain ⟨r1, r2, r3, r4⟩ := tab_set (kn := kn) (z := 1) o7 s07 t7 hst7 ne1 hfl.2 hfl.1 haj hws hlrw
                          obtain ⟨w, z1, z2⟩ := o7.dat ki _ hk
                          simp only [Dv] at z2
                          subst z2
                          have q75 : g7.st = g4.st.set ki (some (.int (0 + (i : Nat)))) := q7.trans q6
                          refine ⟨pA, as.map V.ref, j, .ref as[jn], rfl, rfl, .of t7.hp, ?_, ?_⟩
                          · unfold atI
                            rw [List.length_map, t7.i.ln, hjn]
                            show (as.map V.ref)[jn]? = _
                            rw [List.getElem?_map, haj]; rfl
                          · show tAsg (tC (.int 1)) (gSub (tVar ro) (tVar ki) rSetL) _ ((g4.st.set ki (some (.int (0 + (i : Nat))))).set ro (some (.ref as[jn]))) g7.H
                            rw [← q75]
                            refine ⟨.ref as[jn], List.getElem?_set_self (by rw [o7.len]; exact hlro), .int k, by rw [List.getElem?_set_ne (Ne.symm ne3)]; exact z1, as[jn], ws.map V.int, k, kn, rfl, rfl, y1, by rw [List.length_map]; exact hkn, ?_⟩
                            refine ⟨_, wss.set jn (ws.set kn 1), rfl, ?_, r1, r2, r3, r4, ?_⟩
                            · show upd g7.H as[jn] (.lst ((ws.set kn 1).map V.int)) = _
                              rw [List.map_set]
                            · show OutS X W g ((fixLoop ftest fcall rw ro ki _ ((g7.env.set ro none).set rw _) _).bind _) D
                              rw [e7]; exact oo
                        · exact oo.elim
                      · exact oo.elim
                    · exact oo.elim
                  · exact oo.elim
                · exact oo.elim
      · have hi : i = n.toNat := by omega
        subst hi
        refine .inl ⟨Nat.le_refl _, ?_⟩
        rw [List.drop_of_length_le (by rw [hlen]; exact Nat.le_refl _)] at oo
        exact ⟨g4, rfl, rfl, o4, OutS.rebase ok s4 oo⟩
    · exact p.elim
  · exact p.elim
end BH

set_option maxRecDepth 100000
set_option maxHeartbeats 2000000
namespace BH
open PySem PySem.Spec PyProof.Rows L2
theorem hu65 {A : Around} {k : Nat} (hr : Room k A) : A.units + 65 < cLine := by have := hr.un; omega
def opLt : PyData → PyData → Option RV := opInt fun i j => decide (i < j)
def opLe : PyData → PyData → Option RV := opInt fun i j => decide (i ≤ j)
def opGt : PyData → PyData → Option RV := opInt fun i j => decide (j < i)
def opGe : PyData → PyData → Option RV := opInt fun i j => decide (j ≤ i)
def fuel_law_cut1 (env : SE) : Nat := 100
end BH

set_option maxRecDepth 100000
set_option maxHeartbeats 2000000
namespace BH
open PySem PySem.Spec PyProof.Rows L2

/-! ### reading a reading -/
theorem seq_nx {f t : SF} {env e : SE} (h : f env = .ok (.nx, e)) : fSeqS f t env = t e := by unfold fSeqS; rw [h]; rfl
theorem seq_rt {f t : SF} {env e : SE} {r : Ret} (h : f env = .ok (.rt r, e)) : fSeqS f t env = .ok (.rt r, e) := by unfold fSeqS; rw [h]; rfl
theorem if_t {c : TF} {a b : SF} {env e : SE} (h : c env = .ok (true, e)) : fIfS c a b env = a e := by unfold fIfS; rw [h]; rfl
theorem if_f {c : TF} {a b : SF} {env e : SE} (h : c env = .ok (false, e)) : fIfS c a b env = b e := by unfold fIfS; rw [h]; rfl
theorem loop_inv {b : BF} {body : SF} (P : Nat → SE → Prop) : ∀ (xs : List PyData) (k : Nat), (∀ (i : Nat) x env, xs[i]? = some x → P (k + i) env → ∃ e1, b x env = some e1 ∧ ∃ e2, body e1 = .ok (.nx, e2) ∧ P (k + i + 1) e2) → ∀ env, P k env → ∃ e2, fLoop b body xs env = .ok (.nx, e2) ∧ P (k + xs.length) e2
  | [], k, _, env, p => ⟨env, rfl, p⟩
  | x :: xs, k, h, env, p => by
    obtain ⟨e1, h1, e2, h2, p2⟩ := h 0 x env rfl p
    obtain ⟨e3, h3, p3⟩ := loop_inv P xs (k + 1) (fun i y env hi q => by
      have := h (i + 1) y env (by simpa using hi) (by rw [← Nat.add_assoc, Nat.add_right_comm]; exact q)
      rw [show k + (i + 1) = k + 1 + i by omega] at this
      exact this) e2 p2
    refine ⟨e3, ?_, by rw [List.length_cons, show k + (xs.length + 1) = k + 1 + xs.length by omega]; exact p3⟩
    simp only [fLoop, h1, h2]
    exact h3
theorem comp_inv {b : BF} {vs : List Nat} {tt : TF} {te : CF} (P : Nat → SE → List PyData → Prop) : ∀ (xs : List PyData) (k : Nat), (∀ (i : Nat) x env acc, xs[i]? = some x → P (k + i) env acc → noCell env vs = true ∧ ∃ e1, b x (wipeE env vs) = some e1 ∧
      ((∃ e2 y e3, tt e1 = .ok (true, e2) ∧ te e2 = .ok (y, e3) ∧ acc.length < lim ∧ P (k + i + 1) (restE env vs e3) (acc ++ [y])) ∨ (∃ e2, tt e1 = .ok (false, e2) ∧ P (k + i + 1) (restE env vs e2) acc))) →
    ∀ env acc, P k env acc → ∃ acc' e2, cLoop b vs tt te xs env acc = .ok (acc', e2) ∧ P (k + xs.length) e2 acc'
  | [], k, _, env, acc, p => ⟨acc, env, rfl, p⟩
  | x :: xs, k, h, env, acc, p => by
    obtain ⟨nc, e1, h1, hh⟩ := h 0 x env acc rfl p
    have rest := fun env' acc' p' => comp_inv (te := te) (tt := tt) (b := b) (vs := vs) P xs (k + 1) (fun i y env acc hi q => by
      have := h (i + 1) y env acc (by simpa using hi) (by rw [← Nat.add_assoc, Nat.add_right_comm]; exact q)
      rw [show k + (i + 1) = k + 1 + i by omega] at this
      exact this) env' acc' p'
    rw [List.length_cons, show k + (xs.length + 1) = k + 1 + xs.length by omega]
    simp only [cLoop, nc, if_true, h1]
    rcases hh with ⟨e2, y, e3, h2, h3, h4, p2⟩ | ⟨e2, h2, p2⟩
    · simp only [h2, h3, h4, if_true]
      exact rest _ _ p2
    · simp only [h2]
      exact rest _ _ p2
/-- a comprehension that changes no slot: its elements -/
theorem comp_map {b : BF} {vs : List Nat} {tt : TF} {te : CF} {env : SE} (xs : List PyData) (g : PyData → PyData) (nc : noCell env vs = true) (h : ∀ x ∈ xs, ∃ e1, b x (wipeE env vs) = some e1 ∧ ∃ e2 e3, tt e1 = .ok (true, e2) ∧ te e2 = .ok (g x, e3) ∧ restE env vs e3 = env) (hl : xs.length ≤ lim) :
    cLoop b vs tt te xs env [] = .ok (xs.map g, env) := by
  have : ∀ (ys acc : List PyData), (∀ x ∈ ys, x ∈ xs) → acc.length + ys.length ≤ lim → cLoop b vs tt te ys env acc = .ok (acc ++ ys.map g, env) := by
    intro ys
    induction ys with
    | nil => intro acc _ _; simp [cLoop]
    | cons y r ih =>
      intro acc hy hlen
      obtain ⟨e1, h1, e2, e3, h2, h3, h4⟩ := h y (hy y List.mem_cons_self)
      simp only [List.length_cons] at hlen
      have hlt : acc.length < lim := by omega
      simp only [cLoop, nc, if_true, h1, h2, h3, hlt, h4]
      rw [ih (acc ++ [g y]) (fun x hx => hy x (List.mem_cons_of_mem _ hx)) (by simp; omega)]
      simp
  simpa using this xs [] (fun _ h => h) (by simpa using hl)
def okO : Option MV → Prop
  | some (.cell .bor _) => False
  | some (.cell .lock _) => False
  | _ => True
def setO (o : Option MV) (env : SE) (i : Nat) (mv : MV) : Option SE := match o with
  | some (.cell .bor _) => none
  | some (.cell .lock _) => none
  | _ => some (env.set i (some mv))
theorem setS_def (env : SE) (i : Nat) (mv : MV) : setS env i mv = match env[i]? with
  | some o => setO o env i mv
  | none => none := by
  unfold setS
  cases h : env[i]? with
  | none => rfl
  | some o =>
    cases o with
    | none => rfl
    | some x => cases x with
      | d y => rfl
      | cell m c => cases m <;> rfl
theorem setO_ok {o : Option MV} {env : SE} {i : Nat} {mv : MV} (h : okO o) : setO o env i mv = some (env.set i (some mv)) := by
  unfold setO
  cases o with
  | none => rfl
  | some x => cases x with
    | d y => rfl
    | cell m c => cases m with
      | own => rfl
      | bor => exact h.elim
      | lock => exact h.elim
theorem okO_none : okO none := trivial
theorem okO_d {x : PyData} : okO (some (.d x)) := trivial
theorem okO_own {c : Cell} : okO (some (.cell .own c)) := trivial
theorem cut_mem {α : Type} {xs : List α} {lo hi : Option Int} {x : α} (h : x ∈ cutD xs lo hi) : x ∈ xs := List.mem_of_mem_drop (List.mem_of_mem_take h)
theorem int_mem {ns : List Int} {x : PyData} (h : x ∈ ns.map PyData.int) : ∃ i, x = .int i := by
  obtain ⟨i, _, e⟩ := List.mem_map.mp h
  exact ⟨i, e.symm⟩
theorem setO_none {env : SE} {i : Nat} {mv : MV} : setO none env i mv = some (env.set i (some mv)) := rfl
theorem setO_d {x : PyData} {env : SE} {i : Nat} {mv : MV} : setO (some (.d x)) env i mv = some (env.set i (some mv)) := rfl
theorem setO_own {c : Cell} {env : SE} {i : Nat} {mv : MV} : setO (some (.cell .own c)) env i mv = some (env.set i (some mv)) := rfl
def Nx (r : Res (Fl × SE)) (R : SE → Prop) : Prop := ∃ e, r = .ok (.nx, e) ∧ R e
def Rt (r : Res (Fl × SE)) (Q : Ret → SE → Prop) : Prop := ∃ v e, r = .ok (.rt v, e) ∧ Q v e
theorem rt_seq {f t : SF} {env : SE} {R : SE → Prop} {Q : Ret → SE → Prop} (h : Nx (f env) R) (ht : ∀ e, R e → Rt (t e) Q) : Rt (fSeqS f t env) Q := by
  obtain ⟨e, h1, h2⟩ := h
  rw [seq_nx h1]; exact ht e h2
theorem rt_now {f t : SF} {env : SE} {Q : Ret → SE → Prop} (h : Rt (f env) Q) : Rt (fSeqS f t env) Q := by
  obtain ⟨v, e, h1, h2⟩ := h
  rw [seq_rt h1]; exact ⟨v, e, rfl, h2⟩
theorem nx_seq {f t : SF} {env : SE} {R R' : SE → Prop} (h : Nx (f env) R) (ht : ∀ e, R e → Nx (t e) R') : Nx (fSeqS f t env) R' := by
  obtain ⟨e, h1, h2⟩ := h
  rw [seq_nx h1]; exact ht e h2
theorem nx_end {env : SE} {R : SE → Prop} (h : R env) : Nx (fNextS env) R := ⟨env, rfl, h⟩
theorem nx_for {fi : IF} {b : BF} {body : SF} {env env1 : SE} {xs : List PyData} {R : SE → Prop} (P : Nat → SE → Prop) (hfi : fi env = .ok ((xs, []), env1)) (h0 : P 0 env1)
    (hs : ∀ (i : Nat) x env, xs[i]? = some x → P i env → ∃ e1, b x env = some e1 ∧ Nx (body e1) (P (i + 1))) (hd : ∀ e, P xs.length e → R e) : Nx (fFor fi b body env) R := by
  obtain ⟨e2, h1, h2⟩ := loop_inv P xs 0 (fun i x env hi p => by
    rw [Nat.zero_add] at p ⊢
    obtain ⟨e1, a, e2, b', c⟩ := hs i x env hi p
    exact ⟨e1, a, e2, b', c⟩) env1 h0
  rw [Nat.zero_add] at h2
  refine ⟨e2, ?_, hd e2 h2⟩
  show (fi env).bind _ = _
  rw [hfi]
  show fUnl [] env1 (fLoop b body xs env1) = _
  rw [h1]; rfl
theorem fn_rt {n : Nat} {f : SF} {as : List Arg} {Q : Ret → SE → Prop} (h : Rt (f (envOf n as)) Q) : ∃ v e, fnF n f as = .ok v (outsOf as e) ∧ Q v e := by
  obtain ⟨v, e, h1, h2⟩ := h
  refine ⟨v, e, ?_, h2⟩
  unfold fnF
  rw [h1]
end BH

set_option maxRecDepth 100000
set_option maxHeartbeats 4000000
namespace BH.K01
open PySem PySem.Spec PyProof.Rows L2
/-- _law_deck(script): slots script, great, mixed, cell, more -/
def f_law_deck : SF :=
  (fSeqS (fPar 1 2 (fPCons (fC (.int 0)) (fPCons (fBin opAdd (fC (.int 2845)) (fBin opMul (fC (.int 43)) (fCall opLen (fPCons (fName 0) fPNil)))) fPNil))) (fSeqS (fFor (fSeq (fSl (fName 0) fNoPart (fPart (fC (.int 60))))) (bName 3) (fSeqS (fSet 4 (fBin opAdd (fBin opAdd (fBin opMul (fC (.int 2)) (fCall opAbs (fPCons (fName 3) fPNil))) (fCall opToInt (fPCons (fBin opLt (fName 3) (fC (.int 0))) fPNil))) (fC (.int 1)))) (fSeqS (fSet 2 (fBin opMod (fCall opToInt (fPCons (fBin opAdd (fBin opMul (fName 2) (fC (.int 6364136223846793005))) (fName 4)) fPNil)) (fC (.int 2305843009213693951)))) (fSeqS (fIfS (fTru (fBin opGe (fCall opAbs (fPCons (fName 3) fPNil)) (fBin opPow (fC (.int 10)) (fC (.int 18))))) (fSeqS (fSet 1 (fBin opAdd (fBin opMul (fName 1) (fC (.int 37))) (fCall opAbs (fPCons (fName 3) fPNil)))) fNextS) fNextS) fNextS)))) (fSeqS (fRet (fLst (fCons (fTake (fName 1)) (fCons (fTake (fName 2)) (fCons (fTake (fC (.int 0))) fNil))))) fNextS)))
def F_law_deck : List Arg → FRes := fnF 5 f_law_deck
/-- _law_draw(deck, many): slots deck, many, digit, mixed -/
def f_law_draw : SF :=
  (fSeqS (fIfS (fTru (fBin opGt (fBin opIx (fName 0) (fC (.int 0))) (fC (.int 0)))) (fSeqS (fSet 2 (fBin opMod (fCall opToInt (fPCons (fBin opIx (fName 0) (fC (.int 0))) fPNil)) (fName 1))) (fSeqS (fSetIx (fName 0) (fTake (fC (.int 0))) (fTake (fBin opDiv (fBin opIx (fName 0) (fC (.int 0))) (fName 1)))) (fSeqS (fRet (fName 2)) fNextS))) fNextS) (fSeqS (fSetIx (fName 0) (fTake (fC (.int 2))) (fTake (fBin opAdd (fBin opIx (fName 0) (fC (.int 2))) (fC (.int 1))))) (fSeqS (fSet 3 (fBin opMod (fCall opToInt (fPCons (fBin opAdd (fBin opIx (fName 0) (fC (.int 1))) (fBin opMul (fC (.int 11400714819323198485)) (fBin opIx (fName 0) (fC (.int 2))))) fPNil)) (fC (.int 18446744073709551557)))) (fSeqS (fSet 3 (fBin opMod (fCall opToInt (fPCons (fBin opMul (fName 3) (fBin opAdd (fBin opMod (fName 3) (fC (.int 4294967291))) (fC (.int 11)))) fPNil)) (fC (.int 2305843009213693951)))) (fSeqS (fRet (fBin opMod (fBin opDiv (fBin opMod (fCall opToInt (fPCons (fBin opMul (fName 3) (fName 3)) fPNil)) (fC (.int 2305843009213693921))) (fC (.int 2048))) (fName 1))) fNextS)))))
def F_law_draw : List Arg → FRes := fnF 4 f_law_draw
/-- _law_rank(rows): slots rows, left, found, kind, leads, lead, others, row, at, a, b -/
def f_law_rank : SF :=
  (fSeqS (fBind (bTup (bCons (bName 1) (bCons (bName 2) bNil))) (fTake (fTup (fCons (fTake (fComp (fSeq (fName 0)) (bName 7) [7] fYes (fTake (fCall opList (fPCons (fName 7) fPNil))))) (fCons (fTake (fC (.int 0))) fNil))))) (fSeqS (fFor (fRng1 (fPCons (fCall opLen (fPCons (fBin opIx (fName 0) (fC (.int 0))) fPNil)) fPNil)) (bName 3) (fSeqS (fSet 4 (fComp (fRng1 (fPCons (fCall opLen (fPCons (fName 1) fPNil)) fPNil)) (bName 8) [8] (fTru (fBin (opEq true) (fBin opIx (fBin opIx (fName 1) (fName 8)) (fName 3)) (fC (.int 0)))) (fTake (fName 8)))) (fSeqS (fIfS (fTru (fBin (opEq true) (fName 4) (fLst fNil))) (fSeqS (fBind (bTup (bCons (bName 5) (bCons (bName 2) bNil))) (fTake (fTup (fCons (fTake (fBin opIx (fName 1) (fBin opIx (fName 4) (fC (.int 0))))) (fCons (fTake (fBin opAdd (fName 2) (fC (.int 1)))) fNil))))) (fSeqS (fSet 6 (fBin opAdd (fSl (fName 1) fNoPart (fPart (fBin opIx (fName 4) (fC (.int 0))))) (fSl (fName 1) (fPart (fBin opAdd (fBin opIx (fName 4) (fC (.int 0))) (fC (.int 1)))) fNoPart))) (fSeqS (fSet 1 (fComp (fSeq (fName 6)) (bName 7) [7] fYes (fTake (fComp (fZip (fCons (fTake (fName 7)) (fCons (fTake (fName 5)) fNil))) (bTup (bCons (bName 9) (bCons (bName 10) bNil))) [9, 10] fYes (fTake (fBin opSub (fBin opMul (fName 9) (fBin opIx (fName 5) (fName 3))) (fBin opMul (fName 10) (fBin opIx (fName 7) (fName 3))))))))) fNextS))) fNextS) fNextS))) (fSeqS (fRet (fName 2)) fNextS)))
def F_law_rank : List Arg → FRes := fnF 11 f_law_rank
/-- _law_cut(rows): slots rows, row -/
def f_law_cut : SF :=
  (fSeqS (fun env => fWhileN (fTru (fBin opGt (fBin opSub (fCall opLen (fPCons (fBin opIx (fName 0) (fC (.int 0))) fPNil)) (fCallF 1 F_law_rank (aDat (fTake (fName 0)) aNil))) (fC (.int 3)))) (fSeqS (fSet 0 (fComp (fSeq (fName 0)) (bName 1) [1] fYes (fTake (fSl (fName 1) fNoPart (fPart (fNeg (fC (.int 1)))))))) fNextS) (fuel_law_cut1 env) env) (fSeqS (fRet (fName 0)) fNextS))
def F_law_cut : List Arg → FRes := fnF 2 f_law_cut
/-- _law_scale(deck): slots deck, way, wide, rows, kinds, many, kind, row, cell, column -/
def f_law_scale : SF :=
  (fSeqS (fSet 1 (fCallF 2 F_law_draw (aRef 0 (aDat (fTake (fC (.int 4))) aNil)))) (fSeqS (fIfS (fTru (fBin opLt (fName 1) (fC (.int 2)))) (fSeqS (fRet (fTup (fCons (fTake (fCall opTuple (fPCons (fComp (fRng1 (fPCons (fBin opAdd (fC (.int 1)) (fCallF 2 F_law_draw (aRef 0 (aDat (fTake (fC (.int 4))) aNil)))) fPNil)) (bName 6) [6] fYes (fTake (fBin opAdd (fC (.int 1)) (fCallF 2 F_law_draw (aRef 0 (aDat (fTake (fC (.int 6))) aNil)))))) fPNil))) fNil))) fNextS) fNextS) (fSeqS (fIfS (fTru (fBin (opEq false) (fName 1) (fC (.int 2)))) (fSeqS (fSet 2 (fBin opAdd (fC (.int 2)) (fCallF 2 F_law_draw (aRef 0 (aDat (fTake (fC (.int 2))) aNil))))) (fSeqS (fSet 3 (fComp (fRng1 (fPCons (fC (.int 2)) fPNil)) (bName 7) [7] fYes (fTake (fCall opTuple (fPCons (fComp (fRng1 (fPCons (fBin opMul (fC (.int 2)) (fName 2)) fPNil)) (bName 8) [8] fYes (fTake (fCall opToInt (fPCons (fBin (opEq false) (fBin opDiv (fName 8) (fName 2)) (fName 7)) fPNil)))) fPNil))))) (fSeqS (fRet (fCall opTuple (fPCons (fBin opAdd (fName 3) (fComp (fRng1 (fPCons (fName 2) fPNil)) (bName 9) [9] fYes (fTake (fCall opTuple (fPCons (fComp (fRng1 (fPCons (fBin opMul (fC (.int 2)) (fName 2)) fPNil)) (bName 8) [8] fYes (fTake (fCall opToInt (fPCons (fBin (opEq false) (fBin opMod (fName 8) (fName 2)) (fName 9)) fPNil)))) fPNil))))) fPNil))) fNextS))) fNextS) (fSeqS (fBind (bTup (bCons (bName 4) (bCons (bName 5) bNil))) (fTake (fTup (fCons (fTake (fBin opAdd (fC (.int 2)) (fCallF 2 F_law_draw (aRef 0 (aDat (fTake (fC (.int 5))) aNil))))) (fCons (fTake (fBin opAdd (fC (.int 2)) (fCallF 2 F_law_draw (aRef 0 (aDat (fTake (fC (.int 5))) aNil))))) fNil))))) (fRows (fRng1 (fPCons (fName 5) fPNil)) (bName 7) [7] (fComp (fRng1 (fPCons (fName 4) fPNil)) (bName 6) [6] fYes (fTake (fCallF 2 F_law_draw (aRef 0 (aDat (fTake (fC (.int 2))) aNil))))) (fPCons (fName 4) fPNil) (fTru (fBin (opEq false) (fCall opSum (fPCons (fComp (fSeq (fName 3)) (bName 7) [7] fYes (fTake (fBin opIx (fName 7) (fName 6)))) fPNil)) (fC (.int 0)))) (fCallF 2 F_law_draw (aRef 0 (aDat (fTake (fName 5)) aNil))) 3 7 6 (fSeqS (fRet (fCall opTuple (fPCons (fComp (fSeq (fCallF 1 F_law_cut (aDat (fTake (fName 3)) aNil))) (bName 7) [7] fYes (fTake (fCall opTuple (fPCons (fName 7) fPNil)))) fPNil))) fNextS))))))
def F_law_scale : List Arg → FRes := fnF 10 f_law_scale
/-- _law_pick(deck, items): slots deck, items -/
def f_law_pick : SF :=
  (fSeqS (fRet (fBin opIx (fName 1) (fCallF 2 F_law_draw (aRef 0 (aDat (fTake (fCall opLen (fPCons (fName 1) fPNil))) aNil))))) fNextS)
def F_law_pick : List Arg → FRes := fnF 2 f_law_pick
/-- is_tuple(value, least, most): slots value, least, most -/
def f_is_tuple : SF :=
  (fSeqS (fRet (fAndV (fIsa PyData.isTuple (fName 0)) (fChain (fun i j => decide (i ≤ j)) (fun i j => decide (i ≤ j)) (fName 1) (fCall opLen (fPCons (fName 0) fPNil)) (fName 2)))) fNextS)
def F_is_tuple : List Arg → FRes := fnF 3 f_is_tuple
/-- is_integer(value, low, high): slots value, low, high -/
def f_is_integer : SF :=
  (fSeqS (fRet (fAndV (fIsa PyData.isInt (fName 0)) (fAndV (fNotV (fTru (fIsa PyData.isBool (fName 0)))) (fChain (fun i j => decide (i ≤ j)) (fun i j => decide (i ≤ j)) (fName 1) (fName 0) (fName 2))))) fNextS)
def F_is_integer : List Arg → FRes := fnF 3 f_is_integer
/-- is_heap(scale, value): slots scale, value, kinds, count -/
def f_is_heap : SF :=
  (fSeqS (fSet 2 (fCall opLen (fPCons (fBin opIx (fName 0) (fC (.int 0))) fPNil))) (fSeqS (fRet (fAndV (fCallF 3 F_is_tuple (aDat (fTake (fName 1)) (aDat (fTake (fName 2)) (aDat (fTake (fName 2)) aNil)))) (fCall opAll (fPCons (fComp (fSeq (fName 1)) (bName 3) [3] fYes (fTake (fCallF 3 F_is_integer (aDat (fTake (fName 3)) (aDat (fTake (fC (.int 0))) (aDat (fTake (fC (.int 40))) aNil)))))) fPNil)))) fNextS))
def F_is_heap : List Arg → FRes := fnF 4 f_is_heap
/-- sums_of(scale, heap): slots scale, heap, row, weight, count -/
def f_sums_of : SF :=
  (fSeqS (fRet (fCall opTuple (fPCons (fComp (fSeq (fName 0)) (bName 2) [2] fYes (fTake (fCall opSum (fPCons (fComp (fZip (fCons (fTake (fName 2)) (fCons (fTake (fName 1)) fNil))) (bTup (bCons (bName 3) (bCons (bName 4) bNil))) [3, 4] fYes (fTake (fBin opMul (fName 3) (fName 4)))) fPNil)))) fPNil))) fNextS)
def F_sums_of : List Arg → FRes := fnF 5 f_sums_of
/-- _law_sums(scale, heap): slots scale, heap, row, weight, count -/
def f_law_sums : SF :=
  (fSeqS (fRet (fCall opTuple (fPCons (fComp (fSeq (fName 0)) (bName 2) [2] fYes (fTake (fCall opSum (fPCons (fComp (fZip (fCons (fTake (fName 2)) (fCons (fTake (fName 1)) fNil))) (bTup (bCons (bName 3) (bCons (bName 4) bNil))) [3, 4] fYes (fTake (fBin opMul (fName 3) (fName 4)))) fPNil)))) fPNil))) fNextS)
def F_law_sums : List Arg → FRes := fnF 5 f_law_sums
/-- law(script): slots script, deck, turn, scale, kinds, heap, held, at, odd, bad, more, kind, value -/
def f_law : SF :=
  (fSeqS (fSet 1 (fCallF 1 F_law_deck (aDat (fTake (fName 0)) aNil))) (fSeqS (fFor (fRng1 (fPCons (fC (.int 8)) fPNil)) (bName 2) (fSeqS (fSet 3 (fCallF 1 F_law_scale (aRef 1 aNil))) (fSeqS (fSet 4 (fCall opLen (fPCons (fBin opIx (fName 3) (fC (.int 0))) fPNil))) (fSeqS (fSet 5 (fCall opTuple (fPCons (fComp (fRng1 (fPCons (fName 4) fPNil)) (bName 11) [11] fYes (fTake (fCallF 2 F_law_pick (aRef 1 (aDat (fTake (fLst (fCons (fTake (fC (.int 0))) (fCons (fTake (fC (.int 1))) (fCons (fTake (fC (.int 40))) (fCons (fTake (fCallF 2 F_law_draw (aRef 1 (aDat (fTake (fC (.int 41))) aNil)))) fNil)))))) aNil))))) fPNil))) (fSeqS (fSet 6 (fCall opRepr (fPCons (fLst (fCons (fTake (fName 3)) (fCons (fTake (fName 5)) fNil))) fPNil))) (fSeqS (fIfS (fOr (fTru (fBin (opIs true) (fCallF 2 F_is_heap (aDat (fTake (fName 3)) (aDat (fTake (fName 5)) aNil))) (fC (.bool true)))) (fTru (fBin (opEq true) (fCall opRepr (fPCons (fCallF 2 F_sums_of (aDat (fTake (fName 3)) (aDat (fTake (fName 5)) aNil))) fPNil)) (fCall opRepr (fPCons (fCallF 2 F_law_sums (aDat (fTake (fName 3)) (aDat (fTake (fName 5)) aNil))) fPNil))))) (fSeqS (fRet (fC (.bool false))) fNextS) fNextS) (fSeqS (fSet 7 (fCallF 2 F_law_draw (aRef 1 (aDat (fTake (fName 4)) aNil)))) (fSeqS (fSet 8 (fCallF 2 F_law_pick (aRef 1 (aDat (fTake (fLst (fCons (fTake (fNeg (fC (.int 1)))) (fCons (fTake (fC (.int 41))) (fCons (fTake (fC (.bool true))) (fCons (fTake (fC .none)) (fCons (fTake (fC (.str (Str.ofString "1")))) (fCons (fTake (fBin opPow (fC (.int 10)) (fC (.int 30)))) (fCons (fTake (fTup (fCons (fTake (fTup (fCons (fTake (fC (.int 1))) fNil))) fNil))) (fCons (fTake (fLst (fCons (fTake (fC (.int 0))) fNil))) fNil)))))))))) aNil)))) (fSeqS (fSet 9 (fLst (fCons (fTake (fBin opAdd (fBin opAdd (fSl (fName 5) fNoPart (fPart (fName 7))) (fTup (fCons (fTake (fName 8)) fNil))) (fSl (fName 5) (fPart (fBin opAdd (fName 7) (fC (.int 1)))) fNoPart))) (fCons (fTake (fBin opAdd (fName 5) (fTup (fCons (fTake (fC (.int 0))) fNil)))) (fCons (fTake (fSl (fName 5) (fPart (fC (.int 1))) fNoPart)) (fCons (fTake (fCall opList (fPCons (fName 5) fPNil))) (fCons (fTake (fName 8)) (fCons (fTake fDic0) (fCons (fTake (fTup (fCons (fTake (fName 5)) fNil))) fNil))))))))) (fSeqS (fIfS (fTru (fBin (opEq true) (fComp (fSeq (fName 9)) (bName 12) [12] (fTru (fBin (opIs true) (fCallF 2 F_is_heap (aDat (fTake (fName 3)) (aDat (fTake (fName 12)) aNil))) (fC (.bool false)))) (fTake (fC (.int 1)))) (fLst fNil))) (fSeqS (fRet (fC (.bool false))) fNextS) fNextS) (fSeqS (fSet 10 (fBin opAdd (fBin opAdd (fSl (fName 5) fNoPart (fPart (fName 7))) (fTup (fCons (fTake (fBin opSub (fC (.int 40)) (fBin opIx (fName 5) (fName 7)))) fNil))) (fSl (fName 5) (fPart (fBin opAdd (fName 7) (fC (.int 1)))) fNoPart))) (fSeqS (fIfS (fOr (fTru (fBin (opEq true) (fCall opRepr (fPCons (fCallF 2 F_sums_of (aDat (fTake (fName 3)) (aDat (fTake (fName 10)) aNil))) fPNil)) (fCall opRepr (fPCons (fCallF 2 F_law_sums (aDat (fTake (fName 3)) (aDat (fTake (fName 10)) aNil))) fPNil)))) (fTru (fBin (opEq true) (fCall opRepr (fPCons (fLst (fCons (fTake (fName 3)) (fCons (fTake (fName 5)) fNil))) fPNil)) (fName 6)))) (fSeqS (fRet (fC (.bool false))) fNextS) fNextS) fNextS)))))))))))) (fSeqS (fRet (fC (.bool true))) fNextS)))
def F_law : List Arg → FRes := fnF 13 f_law
end BH.K01

set_option maxRecDepth 100000
set_option maxHeartbeats 4000000
namespace BH.K01
open PySem PySem.Spec PyProof.Rows L2
def deckC (g m t : Int) : Cell := .lst [.int g, .int m, .int t]
theorem draw_law (g m t n : Int) (h0 : 0 < n) (h1 : n < 2 ^ 64) : ∃ v g' m' t', 0 ≤ v ∧ v < n ∧ F_law_draw [.bor (deckC g m t), .d (.int n)] = .ok (.d (.int v)) [.bor (deckC g' m' t'), .d (.int n)] := by
  have dg : divG n := ⟨h0, by
    have : n.natAbs < 2 ^ 64 := by omega
    have := Nat.log2_lt (n := n.natAbs) (k := 64) (by omega)
    omega⟩
  unfold F_law_draw fnF f_law_draw
  by_cases hg : 0 < g
  · refine ⟨g % n, g / n, m, t, Int.emod_nonneg _ (by omega), Int.emod_lt_of_pos _ h0, ?_⟩
    simp [deckC, envOf, Arg.mv, fSeqS, fIfS, fTru, fBin, fName, fC, Res.bind, RV.view, MV.data, Cell.data, opIx, atI, ixN, truR, truD, opGt, opLt, opLe, opGe, opInt, fSet, asg, RV.norm, RV.mv, setS_def, setO_none, setO_d, setO_own, fCall, fPCons, fPNil, views, opToInt, opMod, fSetIx, fTake, RV.take, opDiv, pokeE, fRet, outsOf, opAdd, opSub, opMul, fNextS, opLen, opAbs, fTup, fLst, fCons, fNil, fIf, fNeg, fAnd, fOr, fNot, fAndV, fOrV, fNotV, fIsa, fChain, fSl, fPart, fNoPart, opSl, opTuple, opList, opSum, opIs, isNone, opPow, fCallF, aNil, aDat, aRef, refsOf, toArgs, putOuts, putOut, Ret.rv, fBind, bTup, bCons, bNil, bName, fPar, fSeq, lkOf, fRng1, fRng2, fYes, fDic0, wipeE, restE, noCell, fZip, h0, dg, hg]
  · have e1 : 0 ≤ (m + 11400714819323198485 * (t + 1)) % 18446744073709551557 := Int.emod_nonneg _ (by decide)
    have e2 : (m + 11400714819323198485 * (t + 1)) % 18446744073709551557 < 18446744073709551557 := Int.emod_lt_of_pos _ (by decide)
    generalize hA : (m + 11400714819323198485 * (t + 1)) % 18446744073709551557 = a at *
    have e3 : 0 ≤ (a * (a % 4294967291 + 11)) % 2305843009213693951 := Int.emod_nonneg _ (by decide)
    have e4 : (a * (a % 4294967291 + 11)) % 2305843009213693951 < 2305843009213693951 := Int.emod_lt_of_pos _ (by decide)
    generalize hB : (a * (a % 4294967291 + 11)) % 2305843009213693951 = b at *
    have m1 : mulG 11400714819323198485 (t + 1) := .inl (.inl ⟨by decide, by decide⟩)
    have m2 : mulG a (a % 4294967291 + 11) := .inl (.inl ⟨by omega, by omega⟩)
    have m3 : mulG b b := .inl (.inl ⟨by omega, by omega⟩)
    have d2 : divG 2048 := ⟨by decide, by decide⟩
    refine ⟨(b * b) % 2305843009213693921 / 2048 % n, g, m, t + 1, Int.emod_nonneg _ (by omega), Int.emod_lt_of_pos _ h0, ?_⟩
    simp [deckC, envOf, Arg.mv, fSeqS, fIfS, fTru, fBin, fName, fC, Res.bind, RV.view, MV.data, Cell.data, opIx, atI, ixN, truR, truD, opGt, opLt, opLe, opGe, opInt, fSet, asg, RV.norm, RV.mv, setS_def, setO_none, setO_d, setO_own, fCall, fPCons, fPNil, views, opToInt, opMod, fSetIx, fTake, RV.take, opDiv, pokeE, fRet, outsOf, opAdd, opSub, opMul, fNextS, opLen, opAbs, fTup, fLst, fCons, fNil, fIf, fNeg, fAnd, fOr, fNot, fAndV, fOrV, fNotV, fIsa, fChain, fSl, fPart, fNoPart, opSl, opTuple, opList, opSum, opIs, isNone, opPow, fCallF, aNil, aDat, aRef, refsOf, toArgs, putOuts, putOut, Ret.rv, fBind, bTup, bCons, bNil, bName, fPar, fSeq, lkOf, fRng1, fRng2, fYes, fDic0, wipeE, restE, noCell, fZip, h0, hg, dg, d2, m1, m2, m3, hA, hB]
theorem deck_law (ns : List Int) : ∃ g m outs, F_law_deck [.d (.list (ns.map PyData.int))] = .ok (.tmp (deckC g m 0)) outs := by
  have m0 : ∀ j, mulG 43 j := fun j => .inl (.inl ⟨by decide, by decide⟩)
  have m1 : ∀ j, mulG 2 j := fun j => .inl (.inl ⟨by decide, by decide⟩)
  have m2 : ∀ j, mulG j 6364136223846793005 := fun j => .inl (.inr ⟨by decide, by decide⟩)
  have m3 : ∀ j, mulG j 37 := fun j => .inl (.inr ⟨by decide, by decide⟩)
  have pw : powG 10 18 := ⟨by decide, by decide, by decide⟩
  have : Rt (f_law_deck (envOf 5 [.d (.list (ns.map PyData.int))])) fun v _ => ∃ g m, v = .tmp (deckC g m 0) := by
    unfold f_law_deck
    refine rt_seq (R := fun e => ∃ m, e = [some (.d (.list (ns.map PyData.int))), some (.d (.int 0)), some (.d (.int m)), none, none]) ?_ ?_
    · simp [Nx, envOf, Arg.mv, fSeqS, fIfS, fTru, fBin, fName, fC, Res.bind, RV.view, MV.data, Cell.data, opIx, atI, ixN, truR, truD, opGt, opLt, opLe, opGe, opInt, fSet, asg, RV.norm, RV.mv, setS_def, setO_none, setO_d, setO_own, fCall, fPCons, fPNil, views, opToInt, opMod, fSetIx, fTake, RV.take, opDiv, pokeE, fRet, outsOf, opAdd, opSub, opMul, fNextS, opLen, opAbs, fTup, fLst, fCons, fNil, fIf, fNeg, fAnd, fOr, fNot, fAndV, fOrV, fNotV, fIsa, fChain, fSl, fPart, fNoPart, opSl, opTuple, opList, opSum, opIs, isNone, opPow, fCallF, aNil, aDat, aRef, refsOf, toArgs, putOuts, putOut, Ret.rv, fBind, bTup, bCons, bNil, bName, fPar, fSeq, lkOf, fRng1, fRng2, fYes, fDic0, wipeE, restE, noCell, fZip, m0]
    rintro _ ⟨m, rfl⟩
    refine rt_seq (R := fun e => ∃ S g m o3 o4, e = [S, some (.d (.int g)), some (.d (.int m)), o3, o4]) ?_ ?_
    · refine nx_for (P := fun _ e => ∃ S g m o3 o4, okO o3 ∧ okO o4 ∧ e = [S, some (.d (.int g)), some (.d (.int m)), o3, o4]) (by simp [envOf, Arg.mv, fSeqS, fIfS, fTru, fBin, fName, fC, Res.bind, RV.view, MV.data, Cell.data, opIx, atI, ixN, truR, truD, opGt, opLt, opLe, opGe, opInt, fSet, asg, RV.norm, RV.mv, setS_def, setO_none, setO_d, setO_own, fCall, fPCons, fPNil, views, opToInt, opMod, fSetIx, fTake, RV.take, opDiv, pokeE, fRet, outsOf, opAdd, opSub, opMul, fNextS, opLen, opAbs, fTup, fLst, fCons, fNil, fIf, fNeg, fAnd, fOr, fNot, fAndV, fOrV, fNotV, fIsa, fChain, fSl, fPart, fNoPart, opSl, opTuple, opList, opSum, opIs, isNone, opPow, fCallF, aNil, aDat, aRef, refsOf, toArgs, putOuts, putOut, Ret.rv, fBind, bTup, bCons, bNil, bName, fPar, fSeq, lkOf, fRng1, fRng2, fYes, fDic0, wipeE, restE, noCell, fZip]; exact ⟨rfl, rfl⟩) ⟨_, 0, m, none, none, trivial, trivial, rfl⟩ ?_ ?_
      · rintro i x _ hi ⟨S, g, m, o3, o4, h3, h4, rfl⟩
        obtain ⟨z, rfl⟩ := int_mem (cut_mem (List.mem_of_getElem? hi))
        refine ⟨[S, some (.d (.int g)), some (.d (.int m)), some (.d (.int z)), o4], by simp [envOf, Arg.mv, fSeqS, fIfS, fTru, fBin, fName, fC, Res.bind, RV.view, MV.data, Cell.data, opIx, atI, ixN, truR, truD, opGt, opLt, opLe, opGe, opInt, fSet, asg, RV.norm, RV.mv, setS_def, setO_none, setO_d, setO_own, fCall, fPCons, fPNil, views, opToInt, opMod, fSetIx, fTake, RV.take, opDiv, pokeE, fRet, outsOf, opAdd, opSub, opMul, fNextS, opLen, opAbs, fTup, fLst, fCons, fNil, fIf, fNeg, fAnd, fOr, fNot, fAndV, fOrV, fNotV, fIsa, fChain, fSl, fPart, fNoPart, opSl, opTuple, opList, opSum, opIs, isNone, opPow, fCallF, aNil, aDat, aRef, refsOf, toArgs, putOuts, putOut, Ret.rv, fBind, bTup, bCons, bNil, bName, fPar, fSeq, lkOf, fRng1, fRng2, fYes, fDic0, wipeE, restE, noCell, fZip, setO_ok h3], ?_⟩
        by_cases hc : (10 : Int) ^ 18 ≤ (if z < 0 then -z else z)
        · have hc' : 1000000000000000000 ≤ (if z < 0 then -z else z) := by simpa using hc
          simp [Nx, envOf, Arg.mv, fSeqS, fIfS, fTru, fBin, fName, fC, Res.bind, RV.view, MV.data, Cell.data, opIx, atI, ixN, truR, truD, opGt, opLt, opLe, opGe, opInt, fSet, asg, RV.norm, RV.mv, setS_def, setO_none, setO_d, setO_own, fCall, fPCons, fPNil, views, opToInt, opMod, fSetIx, fTake, RV.take, opDiv, pokeE, fRet, outsOf, opAdd, opSub, opMul, fNextS, opLen, opAbs, fTup, fLst, fCons, fNil, fIf, fNeg, fAnd, fOr, fNot, fAndV, fOrV, fNotV, fIsa, fChain, fSl, fPart, fNoPart, opSl, opTuple, opList, opSum, opIs, isNone, opPow, fCallF, aNil, aDat, aRef, refsOf, toArgs, putOuts, putOut, Ret.rv, fBind, bTup, bCons, bNil, bName, fPar, fSeq, lkOf, fRng1, fRng2, fYes, fDic0, wipeE, restE, noCell, fZip, m1, m2, m3, setO_ok h4, pw, hc']
          exact ⟨_, _, _, _, okO_d, _, okO_d, rfl, rfl, rfl, rfl, rfl⟩
        · have hc' : ¬ 1000000000000000000 ≤ (if z < 0 then -z else z) := by simpa using hc
          simp [Nx, envOf, Arg.mv, fSeqS, fIfS, fTru, fBin, fName, fC, Res.bind, RV.view, MV.data, Cell.data, opIx, atI, ixN, truR, truD, opGt, opLt, opLe, opGe, opInt, fSet, asg, RV.norm, RV.mv, setS_def, setO_none, setO_d, setO_own, fCall, fPCons, fPNil, views, opToInt, opMod, fSetIx, fTake, RV.take, opDiv, pokeE, fRet, outsOf, opAdd, opSub, opMul, fNextS, opLen, opAbs, fTup, fLst, fCons, fNil, fIf, fNeg, fAnd, fOr, fNot, fAndV, fOrV, fNotV, fIsa, fChain, fSl, fPart, fNoPart, opSl, opTuple, opList, opSum, opIs, isNone, opPow, fCallF, aNil, aDat, aRef, refsOf, toArgs, putOuts, putOut, Ret.rv, fBind, bTup, bCons, bNil, bName, fPar, fSeq, lkOf, fRng1, fRng2, fYes, fDic0, wipeE, restE, noCell, fZip, m1, m2, m3, setO_ok h4, pw, hc']
          exact ⟨_, _, _, _, okO_d, _, okO_d, rfl, rfl, rfl, rfl, rfl⟩
      · rintro e ⟨S, g, m, o3, o4, _, _, rfl⟩
        exact ⟨S, g, m, o3, o4, rfl⟩
    rintro _ ⟨S, g, m, o3, o4, rfl⟩
    simp [Rt, envOf, Arg.mv, fSeqS, fIfS, fTru, fBin, fName, fC, Res.bind, RV.view, MV.data, Cell.data, opIx, atI, ixN, truR, truD, opGt, opLt, opLe, opGe, opInt, fSet, asg, RV.norm, RV.mv, setS_def, setO_none, setO_d, setO_own, fCall, fPCons, fPNil, views, opToInt, opMod, fSetIx, fTake, RV.take, opDiv, pokeE, fRet, outsOf, opAdd, opSub, opMul, fNextS, opLen, opAbs, fTup, fLst, fCons, fNil, fIf, fNeg, fAnd, fOr, fNot, fAndV, fOrV, fNotV, fIsa, fChain, fSl, fPart, fNoPart, opSl, opTuple, opList, opSum, opIs, isNone, opPow, fCallF, aNil, aDat, aRef, refsOf, toArgs, putOuts, putOut, Ret.rv, fBind, bTup, bCons, bNil, bName, fPar, fSeq, lkOf, fRng1, fRng2, fYes, fDic0, wipeE, restE, noCell, fZip, deckC, lim]
  obtain ⟨v, e, h1, g, m, rfl⟩ := fn_rt this
  exact ⟨g, m, _, h1⟩
end BH.K01

set_option maxRecDepth 100000
set_option maxHeartbeats 4000000
namespace BH.K01
open PySem PySem.Spec PyProof.Rows L2
theorem pick_law (g m t : Int) (items : List PyData) (h0 : items ≠ []) (h1 : items.length < 1000) : ∃ g' m' t' x, x ∈ items ∧ F_law_pick [.bor (deckC g m t), .d (.list items)] = .ok (.d x) [.bor (deckC g' m' t'), .d (.list items)] := by
  have hl : 0 < items.length := List.length_pos_iff.mpr h0
  obtain ⟨v, g', m', t', v0, v1, hd⟩ := draw_law g m t items.length (by omega) (by omega)
  have hv : v.toNat < items.length := by omega
  refine ⟨g', m', t', items[v.toNat], List.getElem_mem hv, ?_⟩
  simp [F_law_pick, fnF, f_law_pick, envOf, Arg.mv, fSeqS, fIfS, fTru, fBin, fName, fC, Res.bind, RV.view, MV.data, Cell.data, opIx, atI, ixN, truR, truD, opGt, opLt, opLe, opGe, opInt, fSet, asg, RV.norm, RV.mv, setS_def, setO_none, setO_d, setO_own, fCall, fPCons, fPNil, views, opToInt, opMod, fSetIx, fTake, RV.take, opDiv, pokeE, fRet, outsOf, opAdd, opSub, opMul, fNextS, opLen, opAbs, fTup, fLst, fCons, fNil, fIf, fNeg, fAnd, fOr, fNot, fAndV, fOrV, fNotV, fIsa, fChain, fSl, fPart, fNoPart, opSl, opTuple, opList, opSum, opIs, isNone, opPow, fCallF, aNil, aDat, aRef, refsOf, toArgs, putOuts, putOut, Ret.rv, fBind, bTup, bCons, bNil, bName, fPar, fSeq, lkOf, fRng1, fRng2, fYes, fDic0, wipeE, restE, noCell, fZip, hd, v0, v1, hv, h0]
def tupLen : PyData → Option Nat
  | .tuple xs => some xs.length
  | _ => none
theorem is_tuple_law (x : PyData) (lo hi : Int) : F_is_tuple [.d x, .d (.int lo), .d (.int hi)] = .ok (.d (.bool (match tupLen x with
    | some n => decide (lo ≤ n) && decide ((n : Int) ≤ hi)
    | none => false))) [.d x, .d (.int lo), .d (.int hi)] := by
  cases x with
  | tuple xs =>
    by_cases h : lo ≤ (xs.length : Int) <;> simp [F_is_tuple, fnF, f_is_tuple, envOf, Arg.mv, fSeqS, fIfS, fTru, fBin, fName, fC, Res.bind, RV.view, MV.data, Cell.data, opIx, atI, ixN, truR, truD, opGt, opLt, opLe, opGe, opInt, fSet, asg, RV.norm, RV.mv, setS_def, setO_none, setO_d, setO_own, fCall, fPCons, fPNil, views, opToInt, opMod, fSetIx, fTake, RV.take, opDiv, pokeE, fRet, outsOf, opAdd, opSub, opMul, fNextS, opLen, opAbs, fTup, fLst, fCons, fNil, fIf, fNeg, fAnd, fOr, fNot, fAndV, fOrV, fNotV, fIsa, fChain, fSl, fPart, fNoPart, opSl, opTuple, opList, opSum, opIs, isNone, opPow, fCallF, aNil, aDat, aRef, refsOf, toArgs, putOuts, putOut, Ret.rv, fBind, bTup, bCons, bNil, bName, fPar, fSeq, lkOf, fRng1, fRng2, fYes, fDic0, wipeE, restE, noCell, fZip, PyData.isTuple, tupLen, h]
  | _ => simp [F_is_tuple, fnF, f_is_tuple, envOf, Arg.mv, fSeqS, fIfS, fTru, fBin, fName, fC, Res.bind, RV.view, MV.data, Cell.data, opIx, atI, ixN, truR, truD, opGt, opLt, opLe, opGe, opInt, fSet, asg, RV.norm, RV.mv, setS_def, setO_none, setO_d, setO_own, fCall, fPCons, fPNil, views, opToInt, opMod, fSetIx, fTake, RV.take, opDiv, pokeE, fRet, outsOf, opAdd, opSub, opMul, fNextS, opLen, opAbs, fTup, fLst, fCons, fNil, fIf, fNeg, fAnd, fOr, fNot, fAndV, fOrV, fNotV, fIsa, fChain, fSl, fPart, fNoPart, opSl, opTuple, opList, opSum, opIs, isNone, opPow, fCallF, aNil, aDat, aRef, refsOf, toArgs, putOuts, putOut, Ret.rv, fBind, bTup, bCons, bNil, bName, fPar, fSeq, lkOf, fRng1, fRng2, fYes, fDic0, wipeE, restE, noCell, fZip, PyData.isTuple, tupLen]
def okI (lo hi : Int) : PyData → Bool
  | .int i => decide (lo ≤ i) && decide (i ≤ hi)
  | _ => false
theorem is_integer_law (x : PyData) (lo hi : Int) : F_is_integer [.d x, .d (.int lo), .d (.int hi)] = .ok (.d (.bool (okI lo hi x))) [.d x, .d (.int lo), .d (.int hi)] := by
  cases x with
  | int i => by_cases h : lo ≤ i <;> simp [F_is_integer, fnF, f_is_integer, envOf, Arg.mv, fSeqS, fIfS, fTru, fBin, fName, fC, Res.bind, RV.view, MV.data, Cell.data, opIx, atI, ixN, truR, truD, opGt, opLt, opLe, opGe, opInt, fSet, asg, RV.norm, RV.mv, setS_def, setO_none, setO_d, setO_own, fCall, fPCons, fPNil, views, opToInt, opMod, fSetIx, fTake, RV.take, opDiv, pokeE, fRet, outsOf, opAdd, opSub, opMul, fNextS, opLen, opAbs, fTup, fLst, fCons, fNil, fIf, fNeg, fAnd, fOr, fNot, fAndV, fOrV, fNotV, fIsa, fChain, fSl, fPart, fNoPart, opSl, opTuple, opList, opSum, opIs, isNone, opPow, fCallF, aNil, aDat, aRef, refsOf, toArgs, putOuts, putOut, Ret.rv, fBind, bTup, bCons, bNil, bName, fPar, fSeq, lkOf, fRng1, fRng2, fYes, fDic0, wipeE, restE, noCell, fZip, PyData.isInt, PyData.isBool, okI, h]
  | _ => simp [F_is_integer, fnF, f_is_integer, envOf, Arg.mv, fSeqS, fIfS, fTru, fBin, fName, fC, Res.bind, RV.view, MV.data, Cell.data, opIx, atI, ixN, truR, truD, opGt, opLt, opLe, opGe, opInt, fSet, asg, RV.norm, RV.mv, setS_def, setO_none, setO_d, setO_own, fCall, fPCons, fPNil, views, opToInt, opMod, fSetIx, fTake, RV.take, opDiv, pokeE, fRet, outsOf, opAdd, opSub, opMul, fNextS, opLen, opAbs, fTup, fLst, fCons, fNil, fIf, fNeg, fAnd, fOr, fNot, fAndV, fOrV, fNotV, fIsa, fChain, fSl, fPart, fNoPart, opSl, opTuple, opList, opSum, opIs, isNone, opPow, fCallF, aNil, aDat, aRef, refsOf, toArgs, putOuts, putOut, Ret.rv, fBind, bTup, bCons, bNil, bName, fPar, fSeq, lkOf, fRng1, fRng2, fYes, fDic0, wipeE, restE, noCell, fZip, PyData.isInt, PyData.isBool, okI]
theorem bools_all (xs : List PyData) (f : PyData → Bool) : boolsOf (xs.map fun x => .bool (f x)) = some (xs.map f) := by
  induction xs with
  | nil => rfl
  | cons x r ih => simp [boolsOf, ih]
def heapOk (kinds : Nat) : PyData → Bool
  | .tuple xs => decide (xs.length = kinds) && xs.all (okI 0 40)
  | _ => false
theorem is_heap_law (ws : List PyData) (rest : List PyData) (x : PyData) (hk : ws.length < 1000) : ∃ outs, F_is_heap [.d (.tuple (.tuple ws :: rest)), .d x] = .ok (.d (.bool (heapOk ws.length x))) outs := by
  have : Rt (f_is_heap (envOf 4 [.d (.tuple (.tuple ws :: rest)), .d x])) fun v _ => v = .d (.bool (heapOk ws.length x)) := by
    unfold f_is_heap
    refine rt_seq (R := fun e => e = [some (.d (.tuple (.tuple ws :: rest))), some (.d x), some (.d (.int ws.length)), none]) ?_ ?_
    · simp [Nx, envOf, Arg.mv, fSeqS, fIfS, fTru, fBin, fName, fC, Res.bind, RV.view, MV.data, Cell.data, opIx, atI, ixN, truR, truD, opGt, opLt, opLe, opGe, opInt, fSet, asg, RV.norm, RV.mv, setS_def, setO_none, setO_d, setO_own, fCall, fPCons, fPNil, views, opToInt, opMod, fSetIx, fTake, RV.take, opDiv, pokeE, fRet, outsOf, opAdd, opSub, opMul, fNextS, opLen, opAbs, fTup, fLst, fCons, fNil, fIf, fNeg, fAnd, fOr, fNot, fAndV, fOrV, fNotV, fIsa, fChain, fSl, fPart, fNoPart, opSl, opTuple, opList, opSum, opIs, isNone, opPow, fCallF, aNil, aDat, aRef, refsOf, toArgs, putOuts, putOut, Ret.rv, fBind, bTup, bCons, bNil, bName, fPar, fSeq, lkOf, fRng1, fRng2, fYes, fDic0, wipeE, restE, noCell, fZip]
    rintro _ rfl
    refine rt_now ?_
    by_cases hx : ∃ xs : List PyData, x = .tuple xs ∧ xs.length = ws.length
    · obtain ⟨xs, rfl, hl⟩ := hx
      have hc : fComp (fSeq (fName 1)) (bName 3) [3] fYes (fTake (fCallF 3 F_is_integer (aDat (fTake (fName 3)) (aDat (fTake (fC (.int 0))) (aDat (fTake (fC (.int 40))) aNil))))) [some (.d (.tuple (.tuple ws :: rest))), some (.d (.tuple xs)), some (.d (.int ws.length)), none] = .ok (.tmp (.lst (xs.map fun x => .bool (okI 0 40 x))), [some (.d (.tuple (.tuple ws :: rest))), some (.d (.tuple xs)), some (.d (.int ws.length)), none]) := by
        have := comp_map (b := bName 3) (vs := [3]) (tt := fYes) (te := fTake (fCallF 3 F_is_integer (aDat (fTake (fName 3)) (aDat (fTake (fC (.int 0))) (aDat (fTake (fC (.int 40))) aNil))))) (env := [some (.d (.tuple (.tuple ws :: rest))), some (.d (.tuple xs)), some (.d (.int ws.length)), none]) xs (fun x => .bool (okI 0 40 x)) (by simp [envOf, Arg.mv, fSeqS, fIfS, fTru, fBin, fName, fC, Res.bind, RV.view, MV.data, Cell.data, opIx, atI, ixN, truR, truD, opGt, opLt, opLe, opGe, opInt, fSet, asg, RV.norm, RV.mv, setS_def, setO_none, setO_d, setO_own, fCall, fPCons, fPNil, views, opToInt, opMod, fSetIx, fTake, RV.take, opDiv, pokeE, fRet, outsOf, opAdd, opSub, opMul, fNextS, opLen, opAbs, fTup, fLst, fCons, fNil, fIf, fNeg, fAnd, fOr, fNot, fAndV, fOrV, fNotV, fIsa, fChain, fSl, fPart, fNoPart, opSl, opTuple, opList, opSum, opIs, isNone, opPow, fCallF, aNil, aDat, aRef, refsOf, toArgs, putOuts, putOut, Ret.rv, fBind, bTup, bCons, bNil, bName, fPar, fSeq, lkOf, fRng1, fRng2, fYes, fDic0, wipeE, restE, noCell, fZip]) (fun x _ => by simp [envOf, Arg.mv, fSeqS, fIfS, fTru, fBin, fName, fC, Res.bind, RV.view, MV.data, Cell.data, opIx, atI, ixN, truR, truD, opGt, opLt, opLe, opGe, opInt, fSet, asg, RV.norm, RV.mv, setS_def, setO_none, setO_d, setO_own, fCall, fPCons, fPNil, views, opToInt, opMod, fSetIx, fTake, RV.take, opDiv, pokeE, fRet, outsOf, opAdd, opSub, opMul, fNextS, opLen, opAbs, fTup, fLst, fCons, fNil, fIf, fNeg, fAnd, fOr, fNot, fAndV, fOrV, fNotV, fIsa, fChain, fSl, fPart, fNoPart, opSl, opTuple, opList, opSum, opIs, isNone, opPow, fCallF, aNil, aDat, aRef, refsOf, toArgs, putOuts, putOut, Ret.rv, fBind, bTup, bCons, bNil, bName, fPar, fSeq, lkOf, fRng1, fRng2, fYes, fDic0, wipeE, restE, noCell, fZip, is_integer_law]) (by unfold lim; omega)
        simp [fComp, fSeq, fName, Res.bind, RV.view, lockAll, unlockAll, this]
      simp [Rt, envOf, Arg.mv, fSeqS, fIfS, fTru, fBin, fName, fC, Res.bind, RV.view, MV.data, Cell.data, opIx, atI, ixN, truR, truD, opGt, opLt, opLe, opGe, opInt, fSet, asg, RV.norm, RV.mv, setS_def, setO_none, setO_d, setO_own, fCall, fPCons, fPNil, views, opToInt, opMod, fSetIx, fTake, RV.take, opDiv, pokeE, fRet, outsOf, opAdd, opSub, opMul, fNextS, opLen, opAbs, fTup, fLst, fCons, fNil, fIf, fNeg, fAnd, fOr, fNot, fAndV, fOrV, fNotV, fIsa, fChain, fSl, fPart, fNoPart, opSl, opTuple, opList, opSum, opIs, isNone, opPow, fCallF, aNil, aDat, aRef, refsOf, toArgs, putOuts, putOut, Ret.rv, fBind, bTup, bCons, bNil, bName, fPar, fSeq, lkOf, fRng1, fRng2, fYes, fDic0, wipeE, restE, noCell, fZip, is_tuple_law, hc, tupLen, hl, opAll, bools_all, heapOk]
    · have e1 : (match tupLen x with
          | some n => decide ((ws.length : Int) ≤ n) && decide ((n : Int) ≤ ws.length)
          | none => false) = false := by
        cases x with
        | tuple xs =>
          simp only [tupLen, Bool.and_eq_false_iff, decide_eq_false_iff_not]
          have : xs.length ≠ ws.length := fun z => hx ⟨xs, rfl, z⟩
          omega
        | _ => rfl
      have e2 : heapOk ws.length x = false := by
        cases x with
        | tuple xs =>
          simp only [heapOk, Bool.and_eq_false_iff, decide_eq_false_iff_not]
          exact .inl fun z => hx ⟨xs, rfl, z⟩
        | _ => rfl
      have e0 : F_is_tuple [.d x, .d (.int ws.length), .d (.int ws.length)] = .ok (.d (.bool false)) [.d x, .d (.int ws.length), .d (.int ws.length)] := by rw [is_tuple_law, e1]
      simp [Rt, envOf, Arg.mv, fSeqS, fIfS, fTru, fBin, fName, fC, Res.bind, RV.view, MV.data, Cell.data, opIx, atI, ixN, truR, truD, opGt, opLt, opLe, opGe, opInt, fSet, asg, RV.norm, RV.mv, setS_def, setO_none, setO_d, setO_own, fCall, fPCons, fPNil, views, opToInt, opMod, fSetIx, fTake, RV.take, opDiv, pokeE, fRet, outsOf, opAdd, opSub, opMul, fNextS, opLen, opAbs, fTup, fLst, fCons, fNil, fIf, fNeg, fAnd, fOr, fNot, fAndV, fOrV, fNotV, fIsa, fChain, fSl, fPart, fNoPart, opSl, opTuple, opList, opSum, opIs, isNone, opPow, fCallF, aNil, aDat, aRef, refsOf, toArgs, putOuts, putOut, Ret.rv, fBind, bTup, bCons, bNil, bName, fPar, fSeq, lkOf, fRng1, fRng2, fYes, fDic0, wipeE, restE, noCell, fZip, e0, e2]
  obtain ⟨v, e, h1, rfl⟩ := fn_rt this
  exact ⟨_, h1⟩
end BH.K01

set_option maxRecDepth 100000
set_option maxHeartbeats 4000000
namespace BH.K01
open PySem PySem.Spec PyProof.Rows L2
def rowD (r : List Int) : PyData := .list (r.map PyData.int)
theorem tabD_eq (L : List (List Int)) : tabD L = .list (L.map rowD) := rfl
theorem ix_row {l : List Int} {k : Nat} {z : Int} (h : l[k]? = some z) : opIx (rowD l) (.int k) = some (.d (.int z)) := by
  have hk := (List.getElem?_eq_some_iff.mp h).1
  have hz := (List.getElem?_eq_some_iff.mp h).2
  simp [rowD, opIx, atI, ixN, hk, hz]
theorem ix_tab {L : List (List Int)} {k : Nat} {r : List Int} (h : L[k]? = some r) : opIx (.list (L.map rowD)) (.int k) = some (.d (rowD r)) := by
  have hk := (List.getElem?_eq_some_iff.mp h).1
  have hz := (List.getElem?_eq_some_iff.mp h).2
  simp [opIx, atI, ixN, hk, hz]
theorem zip_ints (f : Int → Int → Int) (g : PyData → PyData) (hg : ∀ a b, g (.tuple [.int a, .int b]) = .int (f a b)) : ∀ (r l : List Int), (zipD (r.map PyData.int) (l.map PyData.int)).map g = (List.zipWith f r l).map PyData.int
  | [], _ => by simp [zipD]
  | _ :: _, [] => by simp [zipD]
  | a :: r, b :: l => by
    have ih := zip_ints f g hg r l
    unfold zipD at ih ⊢
    simp only [List.map_cons, List.zipWith_cons_cons, List.map_cons, hg]
    rw [ih]
theorem zip_mem {r l : List Int} {x : PyData} (h : x ∈ zipD (r.map PyData.int) (l.map PyData.int)) : ∃ a b, a ∈ r ∧ b ∈ l ∧ x = .tuple [.int a, .int b] := by
  induction r generalizing l with
  | nil => simp [zipD] at h
  | cons a r ih =>
    cases l with
    | nil => simp [zipD] at h
    | cons b l =>
      unfold zipD at h ih
      simp only [List.map_cons, List.zipWith_cons_cons, List.mem_cons] at h
      rcases h with h | h
      · exact ⟨a, b, by simp, by simp, h⟩
      · obtain ⟨a', b', h1, h2, h3⟩ := ih h
        exact ⟨a', b', by simp [h1], by simp [h2], h3⟩
def gElim (lk rk : Int) : PyData → PyData
  | .tuple [.int a, .int b] => .int (a * lk - b * rk)
  | x => x
theorem elim_law (S0 S1 S2 S4 S6 S8 : Option MV) (r l : List Int) (k : Nat) (rk lk : Int) (hr : r[k]? = some rk) (hl : l[k]? = some lk) (hm : ∀ a ∈ r, mulG a lk) (hm2 : ∀ b ∈ l, mulG b rk) (hlen : r.length ≤ 1000) :
    fComp (fZip (fCons (fTake (fName 7)) (fCons (fTake (fName 5)) fNil))) (bTup (bCons (bName 9) (bCons (bName 10) bNil))) [9, 10] fYes (fTake (fBin opSub (fBin opMul (fName 9) (fBin opIx (fName 5) (fName 3))) (fBin opMul (fName 10) (fBin opIx (fName 7) (fName 3)))))
      [S0, S1, S2, some (.d (.int k)), S4, some (.d (rowD l)), S6, some (.d (rowD r)), S8, none, none] = .ok (.tmp (.lst ((List.zipWith (fun a b => a * lk - b * rk) r l).map PyData.int)), [S0, S1, S2, some (.d (.int k)), S4, some (.d (rowD l)), S6, some (.d (rowD r)), S8, none, none]) := by
  have hlen2 : (zipD (r.map PyData.int) (l.map PyData.int)).length ≤ lim := by
    unfold zipD lim
    rw [List.length_zipWith, List.length_map]; omega
  have := comp_map (b := bTup (bCons (bName 9) (bCons (bName 10) bNil))) (vs := [9, 10]) (tt := fYes) (te := fTake (fBin opSub (fBin opMul (fName 9) (fBin opIx (fName 5) (fName 3))) (fBin opMul (fName 10) (fBin opIx (fName 7) (fName 3))))) (env := [S0, S1, S2, some (.d (.int k)), S4, some (.d (rowD l)), S6, some (.d (rowD r)), S8, none, none])
    (zipD (r.map PyData.int) (l.map PyData.int)) (gElim lk rk) (by simp [envOf, Arg.mv, fSeqS, fIfS, fTru, fBin, fName, fC, Res.bind, RV.view, MV.data, Cell.data, truR, truD, opGt, opLt, opLe, opGe, opInt, fSet, asg, RV.norm, RV.mv, setS_def, setO_none, setO_d, setO_own, fCall, fPCons, fPNil, views, opToInt, opMod, fSetIx, fTake, RV.take, opDiv, pokeE, fRet, outsOf, opAdd, opSub, opMul, fNextS, opLen, opAbs, fTup, fLst, fCons, fNil, fIf, fNeg, fAnd, fOr, fNot, fAndV, fOrV, fNotV, fIsa, fChain, fSl, fPart, fNoPart, opSl, opTuple, opList, opSum, opIs, isNone, opPow, fCallF, aNil, aDat, aRef, refsOf, toArgs, putOuts, putOut, Ret.rv, fBind, bTup, bCons, bNil, bName, fPar, fSeq, lkOf, fRng1, fRng2, fYes, fDic0, wipeE, restE, noCell, fZip]) (fun x hx => by
      obtain ⟨a, b, ha, hb, rfl⟩ := zip_mem hx
      simp [envOf, Arg.mv, fSeqS, fIfS, fTru, fBin, fName, fC, Res.bind, RV.view, MV.data, Cell.data, truR, truD, opGt, opLt, opLe, opGe, opInt, fSet, asg, RV.norm, RV.mv, setS_def, setO_none, setO_d, setO_own, fCall, fPCons, fPNil, views, opToInt, opMod, fSetIx, fTake, RV.take, opDiv, pokeE, fRet, outsOf, opAdd, opSub, opMul, fNextS, opLen, opAbs, fTup, fLst, fCons, fNil, fIf, fNeg, fAnd, fOr, fNot, fAndV, fOrV, fNotV, fIsa, fChain, fSl, fPart, fNoPart, opSl, opTuple, opList, opSum, opIs, isNone, opPow, fCallF, aNil, aDat, aRef, refsOf, toArgs, putOuts, putOut, Ret.rv, fBind, bTup, bCons, bNil, bName, fPar, fSeq, lkOf, fRng1, fRng2, fYes, fDic0, wipeE, restE, noCell, fZip, ix_row hr, ix_row hl, hm a ha, hm2 b hb, gElim]) hlen2
  rw [zip_ints (fun a b => a * lk - b * rk) (gElim lk rk) (fun a b => rfl)] at this
  have e1 : fZip (fCons (fTake (fName 7)) (fCons (fTake (fName 5)) fNil)) [S0, S1, S2, some (.d (.int k)), S4, some (.d (rowD l)), S6, some (.d (rowD r)), S8, none, none] = .ok ((zipD (r.map PyData.int) (l.map PyData.int), []), [S0, S1, S2, some (.d (.int k)), S4, some (.d (rowD l)), S6, some (.d (rowD r)), S8, none, none]) := by
    simp [envOf, Arg.mv, fSeqS, fIfS, fTru, fBin, fName, fC, Res.bind, RV.view, MV.data, Cell.data, truR, truD, opGt, opLt, opLe, opGe, opInt, fSet, asg, RV.norm, RV.mv, setS_def, setO_none, setO_d, setO_own, fCall, fPCons, fPNil, views, opToInt, opMod, fSetIx, fTake, RV.take, opDiv, pokeE, fRet, outsOf, opAdd, opSub, opMul, fNextS, opLen, opAbs, fTup, fLst, fCons, fNil, fIf, fNeg, fAnd, fOr, fNot, fAndV, fOrV, fNotV, fIsa, fChain, fSl, fPart, fNoPart, opSl, opTuple, opList, opSum, opIs, isNone, opPow, fCallF, aNil, aDat, aRef, refsOf, toArgs, putOuts, putOut, Ret.rv, fBind, bTup, bCons, bNil, bName, fPar, fSeq, lkOf, fRng1, fRng2, fYes, fDic0, wipeE, restE, noCell, fZip, rowD]
  unfold fComp
  rw [e1]
  simp only [Res.bind, lockAll, this, unlockAll]
end BH.K01

set_option maxRecDepth 100000
set_option maxHeartbeats 4000000
namespace BH.K01
open PySem PySem.Spec PyProof.Rows L2
theorem eq_int (b : Bool) (i j : Int) : opEq b (.int i) (.int j) = some (.d (.bool (if b then !(i == j) else i == j))) := by
  simp [opEq, SeqAt.shaped, PyData.canLay0, PyData.depth, PyData.eqv]
theorem lay_ints (ns : List Int) : PyData.canLay0 (.list (ns.map PyData.int)) = true ∧ PyData.depth (.list (ns.map PyData.int)) ≤ 2 := by
  induction ns with
  | nil => simp [PyData.canLay0, PyData.canLayAll0, PyData.depth, PyData.depthAll]
  | cons n r ih => simp [PyData.canLay0, PyData.canLayAll0, PyData.depth, PyData.depthAll] at ih ⊢; omega
theorem ne_nil (ns : List Int) : opEq true (.list (ns.map PyData.int)) (.list []) = some (.d (.bool (decide (ns ≠ [])))) := by
  obtain ⟨h1, h2⟩ := lay_ints ns
  have : PyData.depth (.list (ns.map PyData.int)) ≤ 64 := by omega
  cases ns with
  | nil => simp [opEq, SeqAt.shaped, PyData.canLay0, PyData.canLayAll0, PyData.depth, PyData.depthAll, PyData.eqv, PyData.eqvAll]
  | cons n r =>
    have hq := lay_ints r
    simp only [PyData.canLay0, PyData.depth] at hq
    simp [opEq, SeqAt.shaped, PyData.eqv, PyData.eqvAll, PyData.canLay0, PyData.canLayAll0, PyData.depth, PyData.depthAll, hq.1]
    omega
def bd (j : Nat) : Nat := 2 ^ (3 ^ j)
theorem bd_mul {j : Nat} {a b : Int} (hj : j ≤ 10) (ha : a.natAbs ≤ bd j) (hb : b.natAbs ≤ bd j) : mulG a b := by
  have p : 3 ^ j ≤ 3 ^ 10 := Nat.pow_le_pow_right (by decide) hj
  have q : (3 : Nat) ^ 10 = 59049 := by decide
  have lg : ∀ n : Nat, n ≤ bd j → n.log2 ≤ 59050 := fun n hn => by
    by_cases z : n = 0
    · subst z; simp
    · have : n < 2 ^ (3 ^ j + 1) := Nat.lt_of_le_of_lt hn (by unfold bd; exact Nat.pow_lt_pow_right (by decide) (by omega))
      have := (Nat.log2_lt z).mpr this
      omega
  have h1 := lg _ ha
  have h2 := lg _ hb
  exact .inr (by omega)
theorem bd_next {j : Nat} {a b c d : Int} (ha : a.natAbs ≤ bd j) (hb : b.natAbs ≤ bd j) (hc : c.natAbs ≤ bd j) (hd : d.natAbs ≤ bd j) : (a * b - c * d).natAbs ≤ bd (j + 1) := by
  have h1 : (a * b).natAbs ≤ bd j * bd j := by rw [Int.natAbs_mul]; exact Nat.mul_le_mul ha hb
  have h2 : (c * d).natAbs ≤ bd j * bd j := by rw [Int.natAbs_mul]; exact Nat.mul_le_mul hc hd
  have h3 : bd j * bd j + bd j * bd j ≤ bd (j + 1) := by
    have e1 : bd j * bd j + bd j * bd j = 2 ^ (2 * 3 ^ j + 1) := by
      unfold bd
      rw [← Nat.pow_add, Nat.pow_succ, show 3 ^ j + 3 ^ j = 2 * 3 ^ j by omega]; omega
    rw [e1]
    unfold bd
    refine Nat.pow_le_pow_right (by decide) ?_
    have : 0 < 3 ^ j := Nat.pow_pos (by decide)
    rw [Nat.pow_succ]; omega
  omega
theorem bd_mono {j : Nat} {n : Nat} (h : n ≤ bd j) : n ≤ bd (j + 1) := Nat.le_trans h (by
  unfold bd
  refine Nat.pow_le_pow_right (by decide) ?_
  rw [Nat.pow_succ]; omega)
def Rows (kd B : Nat) (L : List (List Int)) : Prop := ∀ r ∈ L, r.length = kd ∧ ∀ a ∈ r, a.natAbs ≤ B
theorem Rows.next {kd j : Nat} {L : List (List Int)} (h : Rows kd (bd j) L) : Rows kd (bd (j + 1)) L := fun r hr => ⟨(h r hr).1, fun a ha => bd_mono ((h r hr).2 a ha)⟩
theorem range_at {n i : Nat} {x : PyData} (h : (rangeD 0 n)[i]? = some x) : i < n ∧ x = .int (i : Nat) := by
  unfold rangeD at h
  rw [List.getElem?_map] at h
  cases hr : (List.range n)[i]? with
  | none => rw [hr] at h; cases h
  | some j =>
    rw [hr] at h; cases h
    have hi : i < n := by simpa using (List.getElem?_eq_some_iff.mp hr).1
    rw [List.getElem?_range hi] at hr; cases hr
    exact ⟨hi, by simp⟩
theorem rows_mem {L : List (List Int)} {x : PyData} (h : x ∈ L.map rowD) : ∃ r ∈ L, x = rowD r := by
  obtain ⟨r, h1, h2⟩ := List.mem_map.mp h
  exact ⟨r, h1, h2.symm⟩
theorem cut_map {α β : Type} (f : α → β) (xs : List α) (lo hi : Option Int) : cutD (xs.map f) lo hi = (cutD xs lo hi).map f := by
  unfold cutD
  rw [List.length_map, List.map_take, List.map_drop]
def LeftIs (o : Option MV) (L : List (List Int)) : Prop := o = some (.d (tabD L)) ∨ o = some (.cell .own (.lst (L.map rowD)))
end BH.K01

set_option maxRecDepth 100000
set_option maxHeartbeats 4000000
namespace BH.K01
open PySem PySem.Spec PyProof.Rows L2
theorem nx_if_t {c : TF} {a b : SF} {env e : SE} {R : SE → Prop} (h : c env = .ok (true, e)) (ha : Nx (a e) R) : Nx (fIfS c a b env) R := by rw [if_t h]; exact ha
theorem nx_if_f {c : TF} {a b : SF} {env e : SE} {R : SE → Prop} (h : c env = .ok (false, e)) (ha : Nx (b e) R) : Nx (fIfS c a b env) R := by rw [if_f h]; exact ha
theorem take_of {f : EF} {env e : SE} {r : RV} (h : f env = .ok (r, e)) : fTake f env = match r.take e with
    | some q => .ok q
    | none => .fail := by unfold fTake; rw [h]; rfl
theorem rng1_of {f : EFs} {env e : SE} {rs : List RV} {n : Nat} (h : f env = .ok (rs, e)) (hv : views rs e = some [.int (n : Int)]) (hn : n ≤ 102400) : fRng1 f env = .ok ((rangeD 0 n, []), e) := by
  have hr : rngG (n : Int) := ⟨by omega, by omega⟩
  unfold fRng1
  rw [h]
  simp only [Res.bind]
  rw [hv]
  simp only
  rw [if_pos hr, Int.toNat_natCast]
theorem LeftIs.ok {o : Option MV} {L : List (List Int)} (h : LeftIs o L) : okO o := by rcases h with rfl | rfl <;> trivial
theorem leads_law (S0 o1 S2 o4 o5 o6 : Option MV) (L : List (List Int)) (k kd B : Nat) (hL : LeftIs o1 L) (hR : Rows kd B L) (hk : k < kd) (hlen : L.length ≤ 102400) :
    ∃ A : List Int, (∀ a ∈ A, ∃ n : Nat, a = n ∧ n < L.length) ∧ fComp (fRng1 (fPCons (fCall opLen (fPCons (fName 1) fPNil)) fPNil)) (bName 8) [8] (fTru (fBin (opEq true) (fBin opIx (fBin opIx (fName 1) (fName 8)) (fName 3)) (fC (.int 0)))) (fTake (fName 8))
      [S0, o1, S2, some (.d (.int k)), o4, o5, o6, none, none, none, none] = .ok (.tmp (.lst (A.map PyData.int)), [S0, o1, S2, some (.d (.int k)), o4, o5, o6, none, none, none, none]) := by
  have e1 : fRng1 (fPCons (fCall opLen (fPCons (fName 1) fPNil)) fPNil) [S0, o1, S2, some (.d (.int k)), o4, o5, o6, none, none, none, none] = .ok ((rangeD 0 L.length, []), [S0, o1, S2, some (.d (.int k)), o4, o5, o6, none, none, none, none]) := by
    rcases hL with rfl | rfl
    · exact rng1_of (rs := [.d (.int (L.length : Nat))]) (by simp [envOf, Arg.mv, fSeqS, fIfS, fTru, fBin, fName, fC, Res.bind, RV.view, MV.data, Cell.data, truR, truD, opGt, opLt, opLe, opGe, opInt, fSet, asg, RV.norm, RV.mv, setS_def, setO_none, setO_d, setO_own, fCall, fPCons, fPNil, views, opToInt, opMod, fSetIx, fTake, RV.take, opDiv, pokeE, fRet, outsOf, opAdd, opSub, opMul, fNextS, opLen, opAbs, fTup, fLst, fCons, fNil, fIf, fNeg, fAnd, fOr, fNot, fAndV, fOrV, fNotV, fIsa, fChain, fSl, fPart, fNoPart, opSl, opTuple, opList, opSum, opIs, isNone, opPow, fCallF, aNil, aDat, aRef, refsOf, toArgs, putOuts, putOut, Ret.rv, fBind, bTup, bCons, bNil, bName, fPar, fSeq, lkOf, fRng1, fRng2, fYes, fDic0, wipeE, restE, noCell, fZip, tabD_eq]) rfl hlen
    · exact rng1_of (rs := [.d (.int (L.length : Nat))]) (by simp [envOf, Arg.mv, fSeqS, fIfS, fTru, fBin, fName, fC, Res.bind, RV.view, MV.data, Cell.data, truR, truD, opGt, opLt, opLe, opGe, opInt, fSet, asg, RV.norm, RV.mv, setS_def, setO_none, setO_d, setO_own, fCall, fPCons, fPNil, views, opToInt, opMod, fSetIx, fTake, RV.take, opDiv, pokeE, fRet, outsOf, opAdd, opSub, opMul, fNextS, opLen, opAbs, fTup, fLst, fCons, fNil, fIf, fNeg, fAnd, fOr, fNot, fAndV, fOrV, fNotV, fIsa, fChain, fSl, fPart, fNoPart, opSl, opTuple, opList, opSum, opIs, isNone, opPow, fCallF, aNil, aDat, aRef, refsOf, toArgs, putOuts, putOut, Ret.rv, fBind, bTup, bCons, bNil, bName, fPar, fSeq, lkOf, fRng1, fRng2, fYes, fDic0, wipeE, restE, noCell, fZip, tabD_eq]) rfl hlen
  have hl : (rangeD 0 L.length).length = L.length := by unfold rangeD; simp
  obtain ⟨acc, e2, h1, A, h2, h3, h4, h5⟩ := comp_inv (b := bName 8) (vs := [8]) (tt := fTru (fBin (opEq true) (fBin opIx (fBin opIx (fName 1) (fName 8)) (fName 3)) (fC (.int 0)))) (te := fTake (fName 8))
    (fun i e acc => ∃ A : List Int, acc = A.map PyData.int ∧ (∀ a ∈ A, ∃ n : Nat, a = n ∧ n < L.length) ∧ A.length ≤ i ∧ e = [S0, o1, S2, some (.d (.int k)), o4, o5, o6, none, none, none, none]) (rangeD 0 L.length) 0 (fun i x e acc hi ⟨A, h2, h3, h4, h5⟩ => by
      subst h2 h5
      obtain ⟨hi2, rfl⟩ := range_at hi
      have hr : L[i]? = some L[i] := List.getElem?_eq_getElem hi2
      have hz : L[i][k]? = some (L[i][k]'(by rw [(hR _ (List.getElem_mem hi2)).1]; exact hk)) := List.getElem?_eq_getElem _
      have it := ix_tab hr
      have ir := ix_row hz
      refine ⟨by simp [noCell], [S0, o1, S2, some (.d (.int k)), o4, o5, o6, none, some (.d (.int i)), none, none], by simp [envOf, Arg.mv, fSeqS, fIfS, fTru, fBin, fName, fC, Res.bind, RV.view, MV.data, Cell.data, truR, truD, opGt, opLt, opLe, opGe, opInt, fSet, asg, RV.norm, RV.mv, setS_def, setO_none, setO_d, setO_own, fCall, fPCons, fPNil, views, opToInt, opMod, fSetIx, fTake, RV.take, opDiv, pokeE, fRet, outsOf, opAdd, opSub, opMul, fNextS, opLen, opAbs, fTup, fLst, fCons, fNil, fIf, fNeg, fAnd, fOr, fNot, fAndV, fOrV, fNotV, fIsa, fChain, fSl, fPart, fNoPart, opSl, opTuple, opList, opSum, opIs, isNone, opPow, fCallF, aNil, aDat, aRef, refsOf, toArgs, putOuts, putOut, Ret.rv, fBind, bTup, bCons, bNil, bName, fPar, fSeq, lkOf, fRng1, fRng2, fYes, fDic0, wipeE, restE, noCell, fZip], ?_⟩
      by_cases c : L[i][k]'(by rw [(hR _ (List.getElem_mem hi2)).1]; exact hk) = 0
      · refine .inr ⟨[S0, o1, S2, some (.d (.int k)), o4, o5, o6, none, some (.d (.int i)), none, none], ?_, A, rfl, h3, by omega, by simp [restE]⟩
        rcases hL with rfl | rfl <;> simp [envOf, Arg.mv, fSeqS, fIfS, fTru, fBin, fName, fC, Res.bind, RV.view, MV.data, Cell.data, truR, truD, opGt, opLt, opLe, opGe, opInt, fSet, asg, RV.norm, RV.mv, setS_def, setO_none, setO_d, setO_own, fCall, fPCons, fPNil, views, opToInt, opMod, fSetIx, fTake, RV.take, opDiv, pokeE, fRet, outsOf, opAdd, opSub, opMul, fNextS, opLen, opAbs, fTup, fLst, fCons, fNil, fIf, fNeg, fAnd, fOr, fNot, fAndV, fOrV, fNotV, fIsa, fChain, fSl, fPart, fNoPart, opSl, opTuple, opList, opSum, opIs, isNone, opPow, fCallF, aNil, aDat, aRef, refsOf, toArgs, putOuts, putOut, Ret.rv, fBind, bTup, bCons, bNil, bName, fPar, fSeq, lkOf, fRng1, fRng2, fYes, fDic0, wipeE, restE, noCell, fZip, tabD_eq, it, ir, eq_int, c]
      · refine .inl ⟨[S0, o1, S2, some (.d (.int k)), o4, o5, o6, none, some (.d (.int i)), none, none], .int i, [S0, o1, S2, some (.d (.int k)), o4, o5, o6, none, some (.d (.int i)), none, none], ?_, by simp [envOf, Arg.mv, fSeqS, fIfS, fTru, fBin, fName, fC, Res.bind, RV.view, MV.data, Cell.data, truR, truD, opGt, opLt, opLe, opGe, opInt, fSet, asg, RV.norm, RV.mv, setS_def, setO_none, setO_d, setO_own, fCall, fPCons, fPNil, views, opToInt, opMod, fSetIx, fTake, RV.take, opDiv, pokeE, fRet, outsOf, opAdd, opSub, opMul, fNextS, opLen, opAbs, fTup, fLst, fCons, fNil, fIf, fNeg, fAnd, fOr, fNot, fAndV, fOrV, fNotV, fIsa, fChain, fSl, fPart, fNoPart, opSl, opTuple, opList, opSum, opIs, isNone, opPow, fCallF, aNil, aDat, aRef, refsOf, toArgs, putOuts, putOut, Ret.rv, fBind, bTup, bCons, bNil, bName, fPar, fSeq, lkOf, fRng1, fRng2, fYes, fDic0, wipeE, restE, noCell, fZip], by rw [List.length_map]; unfold lim; omega, A ++ [(i : Int)], by simp, ?_, by simp; omega, by simp [restE]⟩
        · rcases hL with rfl | rfl <;> simp [envOf, Arg.mv, fSeqS, fIfS, fTru, fBin, fName, fC, Res.bind, RV.view, MV.data, Cell.data, truR, truD, opGt, opLt, opLe, opGe, opInt, fSet, asg, RV.norm, RV.mv, setS_def, setO_none, setO_d, setO_own, fCall, fPCons, fPNil, views, opToInt, opMod, fSetIx, fTake, RV.take, opDiv, pokeE, fRet, outsOf, opAdd, opSub, opMul, fNextS, opLen, opAbs, fTup, fLst, fCons, fNil, fIf, fNeg, fAnd, fOr, fNot, fAndV, fOrV, fNotV, fIsa, fChain, fSl, fPart, fNoPart, opSl, opTuple, opList, opSum, opIs, isNone, opPow, fCallF, aNil, aDat, aRef, refsOf, toArgs, putOuts, putOut, Ret.rv, fBind, bTup, bCons, bNil, bName, fPar, fSeq, lkOf, fRng1, fRng2, fYes, fDic0, wipeE, restE, noCell, fZip, tabD_eq, it, ir, eq_int, c]
        · intro a ha
          rcases List.mem_append.mp ha with h | h
          · exact h3 a h
          · rw [List.mem_singleton] at h; exact ⟨i, h, hi2⟩) _ [] ⟨[], rfl, by simp, by simp, rfl⟩
  subst h2 h5
  refine ⟨A, h3, ?_⟩
  unfold fComp
  rw [e1]
  simp only [Res.bind, lockAll, h1, unlockAll]
def gRow (l : List Int) (lk : Int) (k : Nat) : PyData → PyData
  | .list ds => match intsOf ds with
    | some r => rowD (List.zipWith (fun a b => a * lk - b * r.getD k 0) r l)
    | none => .none
  | _ => .none
theorem left_law (S0 o1 S2 o4 : Option MV) (L : List (List Int)) (l : List Int) (k kd j : Nat) (hj : j ≤ 10) (hR : Rows kd (bd j) L) (hl : l.length = kd ∧ ∀ a ∈ l, a.natAbs ≤ bd j) (hk : k < kd) (hkd : kd ≤ 1000) (hlen : L.length ≤ 102400) :
    ∃ L' : List (List Int), Rows kd (bd (j + 1)) L' ∧ L'.length = L.length ∧ fComp (fSeq (fName 6)) (bName 7) [7] fYes (fTake (fComp (fZip (fCons (fTake (fName 7)) (fCons (fTake (fName 5)) fNil))) (bTup (bCons (bName 9) (bCons (bName 10) bNil))) [9, 10] fYes (fTake (fBin opSub (fBin opMul (fName 9) (fBin opIx (fName 5) (fName 3))) (fBin opMul (fName 10) (fBin opIx (fName 7) (fName 3)))))))
      [S0, o1, S2, some (.d (.int k)), o4, some (.d (rowD l)), some (.cell .own (.lst (L.map rowD))), none, none, none, none] = .ok (.tmp (.lst (L'.map rowD)), [S0, o1, S2, some (.d (.int k)), o4, some (.d (rowD l)), some (.cell .own (.lst (L.map rowD))), none, none, none, none]) := by
  have hkl : l[k]? = some (l[k]'(by rw [hl.1]; exact hk)) := List.getElem?_eq_getElem _
  generalize hlk : l[k]'(by rw [hl.1]; exact hk) = lk at hkl
  have hlkm : lk ∈ l := List.mem_of_getElem? hkl
  have key : ∀ r ∈ L, ∃ rk, r[k]? = some rk ∧ r.getD k 0 = rk ∧ rk ∈ r := fun r hr => by
    have h : r[k]? = some (r[k]'(by rw [(hR r hr).1]; exact hk)) := List.getElem?_eq_getElem _
    exact ⟨_, h, by rw [List.getD_eq_getElem?_getD, h]; rfl, List.mem_of_getElem? h⟩
  have := comp_map (b := bName 7) (vs := [7]) (tt := fYes) (te := fTake (fComp (fZip (fCons (fTake (fName 7)) (fCons (fTake (fName 5)) fNil))) (bTup (bCons (bName 9) (bCons (bName 10) bNil))) [9, 10] fYes (fTake (fBin opSub (fBin opMul (fName 9) (fBin opIx (fName 5) (fName 3))) (fBin opMul (fName 10) (fBin opIx (fName 7) (fName 3)))))))
    (env := [S0, o1, S2, some (.d (.int k)), o4, some (.d (rowD l)), some (.cell .lock (.lst (L.map rowD))), none, none, none, none]) (L.map rowD) (gRow l lk k) (by simp [noCell]) (fun x hx => by
      obtain ⟨r, hr, rfl⟩ := rows_mem hx
      obtain ⟨rk, h1, h2, h3⟩ := key r hr
      refine ⟨[S0, o1, S2, some (.d (.int k)), o4, some (.d (rowD l)), some (.cell .lock (.lst (L.map rowD))), some (.d (rowD r)), none, none, none], by simp [envOf, Arg.mv, fSeqS, fIfS, fTru, fBin, fName, fC, Res.bind, RV.view, MV.data, Cell.data, truR, truD, opGt, opLt, opLe, opGe, opInt, fSet, asg, RV.norm, RV.mv, setS_def, setO_none, setO_d, setO_own, fCall, fPCons, fPNil, views, opToInt, opMod, fSetIx, fTake, RV.take, opDiv, pokeE, fRet, outsOf, opAdd, opSub, opMul, fNextS, opLen, opAbs, fTup, fLst, fCons, fNil, fIf, fNeg, fAnd, fOr, fNot, fAndV, fOrV, fNotV, fIsa, fChain, fSl, fPart, fNoPart, opSl, opTuple, opList, opSum, opIs, isNone, opPow, fCallF, aNil, aDat, aRef, refsOf, toArgs, putOuts, putOut, Ret.rv, fBind, bTup, bCons, bNil, bName, fPar, fSeq, lkOf, fRng1, fRng2, fYes, fDic0, wipeE, restE, noCell, fZip], [S0, o1, S2, some (.d (.int k)), o4, some (.d (rowD l)), some (.cell .lock (.lst (L.map rowD))), some (.d (rowD r)), none, none, none], [S0, o1, S2, some (.d (.int k)), o4, some (.d (rowD l)), some (.cell .lock (.lst (L.map rowD))), some (.d (rowD r)), none, none, none], rfl, ?_, by simp [restE]⟩
      rw [take_of (elim_law _ _ _ _ _ _ r l k rk lk h1 hkl (fun a ha => bd_mul hj ((hR r hr).2 a ha) (hl.2 _ hlkm)) (fun b hb => bd_mul hj (hl.2 b hb) ((hR r hr).2 _ h3)) (by rw [(hR r hr).1]; exact hkd))]
      simp [Res.bind, RV.take, Cell.data, gRow, rowD, intsOf_ints, h1]) (by rw [List.length_map]; unfold lim; omega)
  refine ⟨L.map fun r => List.zipWith (fun a b => a * lk - b * r.getD k 0) r l, ?_, by simp, ?_⟩
  · intro r' hr'
    obtain ⟨r, hr, rfl⟩ := List.mem_map.mp hr'
    obtain ⟨rk, h1, h2, h3⟩ := key r hr
    refine ⟨by rw [List.length_zipWith, (hR r hr).1, hl.1]; omega, fun a ha => ?_⟩
    rw [List.mem_iff_getElem?] at ha
    obtain ⟨n, hn⟩ := ha
    rw [List.getElem?_zipWith] at hn
    cases ea : r[n]? with
    | none => rw [ea] at hn; cases hn
    | some x => cases eb : l[n]? with
      | none => rw [ea, eb] at hn; cases hn
      | some y =>
        rw [ea, eb] at hn
        cases hn
        rw [h2]
        exact bd_next ((hR r hr).2 x (List.mem_of_getElem? ea)) (hl.2 _ hlkm) (hl.2 y (List.mem_of_getElem? eb)) ((hR r hr).2 _ h3)
  · have e2 : (L.map rowD).map (gRow l lk k) = (L.map fun r => List.zipWith (fun a b => a * lk - b * r.getD k 0) r l).map rowD := by
      rw [List.map_map, List.map_map]
      refine List.map_congr_left fun r _ => ?_
      simp [gRow, rowD, intsOf_ints]
    rw [e2] at this
    simp [fComp, fSeq, fName, Res.bind, RV.view, MV.data, Cell.data, lkOf, lockAll, lock1, this, unlockAll, unlock1]
end BH.K01

set_option maxRecDepth 100000
set_option maxHeartbeats 4000000
namespace BH.K01
open PySem PySem.Spec PyProof.Rows L2
def RankP (T : PyData) (kd i : Nat) (e : SE) : Prop := ∃ (L : List (List Int)) (o1 : Option MV) (f : Int) (o3 o4 o5 o6 : Option MV), LeftIs o1 L ∧ 0 ≤ f ∧ Rows kd (bd i) L ∧ L.length ≤ 100 * 2 ^ i ∧ okO o3 ∧ okO o4 ∧ okO o5 ∧ okO o6 ∧ e = [some (.d T), o1, some (.d (.int f)), o3, o4, o5, o6, none, none, none, none]
theorem ints_cons (a : Int) (A : List Int) : (a :: A).map PyData.int = .int a :: A.map PyData.int := rfl
theorem ix_zero {x : PyData} {xs : List PyData} : opIx (.list (x :: xs)) (.int 0) = some (.d x) := by simp [opIx, atI, ixN]
theorem cut_len (L : List (List Int)) (lo hi : Option Int) : (cutD (L.map rowD) lo hi).length ≤ L.length := by
  have := cut_length (L.map rowD) lo hi
  rwa [List.length_map] at this
theorem rank_law (L : List (List Int)) (kd : Nat) (hkd : kd ≤ 8) (h0 : L ≠ []) (hlen : L.length ≤ 100) (hR : Rows kd 2 L) : ∃ (f : Int) (outs : List Arg), 0 ≤ f ∧ F_law_rank [.d (tabD L)] = .ok (.d (.int f)) outs := by
  have : Rt (f_law_rank (envOf 11 [.d (tabD L)])) fun v _ => ∃ f : Int, 0 ≤ f ∧ v = .d (.int f) := by
    unfold f_law_rank
    obtain ⟨r0, L0, rfl⟩ : ∃ r0 L0, L = r0 :: L0 := by cases L with
      | nil => exact absurd rfl h0
      | cons r l => exact ⟨r, l, rfl⟩
    refine rt_seq (R := fun e => e = [some (.d (tabD (r0 :: L0))), some (.d (tabD (r0 :: L0))), some (.d (.int 0)), none, none, none, none, none, none, none, none]) ?_ ?_
    · have hc := comp_map (b := bName 7) (vs := [7]) (tt := fYes) (te := fTake (fCall opList (fPCons (fName 7) fPNil))) (env := [some (.d (tabD (r0 :: L0))), none, none, none, none, none, none, none, none, none, none]) ((r0 :: L0).map rowD) id (by simp [noCell]) (fun x hx => by
        obtain ⟨r, hr, rfl⟩ := rows_mem hx
        simp [envOf, Arg.mv, fSeqS, fIfS, fTru, fBin, fName, fC, Res.bind, RV.view, MV.data, Cell.data, truR, truD, opGt, opLt, opLe, opGe, opInt, fSet, asg, RV.norm, RV.mv, setS_def, setO_none, setO_d, setO_own, fCall, fPCons, fPNil, views, opToInt, opMod, fSetIx, fTake, RV.take, opDiv, pokeE, fRet, outsOf, opAdd, opSub, opMul, fNextS, opLen, opAbs, fTup, fLst, fCons, fNil, fIf, fNeg, fAnd, fOr, fNot, fAndV, fOrV, fNotV, fIsa, fChain, fSl, fPart, fNoPart, opSl, opTuple, opList, opSum, opIs, isNone, opPow, fCallF, aNil, aDat, aRef, refsOf, toArgs, putOuts, putOut, Ret.rv, fBind, bTup, bCons, bNil, bName, fPar, fSeq, lkOf, fRng1, fRng2, fYes, fDic0, wipeE, restE, noCell, fZip, rowD]) (by rw [List.length_map]; unfold lim; omega)
      rw [List.map_id] at hc
      have hc2 : fComp (fSeq (fName 0)) (bName 7) [7] fYes (fTake (fCall opList (fPCons (fName 7) fPNil))) [some (.d (tabD (r0 :: L0))), none, none, none, none, none, none, none, none, none, none] = .ok (.tmp (.lst ((r0 :: L0).map rowD)), [some (.d (tabD (r0 :: L0))), none, none, none, none, none, none, none, none, none, none]) := by
        have e1 : fSeq (fName 0) [some (.d (tabD (r0 :: L0))), none, none, none, none, none, none, none, none, none, none] = .ok (((r0 :: L0).map rowD, []), [some (.d (tabD (r0 :: L0))), none, none, none, none, none, none, none, none, none, none]) := by simp [envOf, Arg.mv, fSeqS, fIfS, fTru, fBin, fName, fC, Res.bind, RV.view, MV.data, Cell.data, truR, truD, opGt, opLt, opLe, opGe, opInt, fSet, asg, RV.norm, RV.mv, setS_def, setO_none, setO_d, setO_own, fCall, fPCons, fPNil, views, opToInt, opMod, fSetIx, fTake, RV.take, opDiv, pokeE, fRet, outsOf, opAdd, opSub, opMul, fNextS, opLen, opAbs, fTup, fLst, fCons, fNil, fIf, fNeg, fAnd, fOr, fNot, fAndV, fOrV, fNotV, fIsa, fChain, fSl, fPart, fNoPart, opSl, opTuple, opList, opSum, opIs, isNone, opPow, fCallF, aNil, aDat, aRef, refsOf, toArgs, putOuts, putOut, Ret.rv, fBind, bTup, bCons, bNil, bName, fPar, fSeq, lkOf, fRng1, fRng2, fYes, fDic0, wipeE, restE, noCell, fZip, tabD_eq]
        unfold fComp
        rw [e1]
        simp only [Res.bind, lockAll, hc, unlockAll]
      have e0 : envOf 11 [.d (tabD (r0 :: L0))] = [some (.d (tabD (r0 :: L0))), none, none, none, none, none, none, none, none, none, none] := rfl
      rw [e0]
      simp [Nx, envOf, Arg.mv, fSeqS, fIfS, fTru, fBin, fName, fC, Res.bind, RV.view, MV.data, Cell.data, truR, truD, opGt, opLt, opLe, opGe, opInt, fSet, asg, RV.norm, RV.mv, setS_def, setO_none, setO_d, setO_own, fCall, fPCons, fPNil, views, opToInt, opMod, fSetIx, fTake, RV.take, opDiv, pokeE, fRet, outsOf, opAdd, opSub, opMul, fNextS, opLen, opAbs, fTup, fLst, fCons, fNil, fIf, fNeg, fAnd, fOr, fNot, fAndV, fOrV, fNotV, fIsa, fChain, fSl, fPart, fNoPart, opSl, opTuple, opList, opSum, opIs, isNone, opPow, fCallF, aNil, aDat, aRef, refsOf, toArgs, putOuts, putOut, Ret.rv, fBind, bTup, bCons, bNil, bName, fPar, fSeq, lkOf, fRng1, fRng2, fYes, fDic0, wipeE, restE, noCell, fZip, hc2, lim]
      rfl
    rintro _ rfl
    refine rt_seq (R := fun e => ∃ (T o1 : Option MV) (f : Int) (o3 o4 o5 o6 : Option MV), 0 ≤ f ∧ e = [T, o1, some (.d (.int f)), o3, o4, o5, o6, none, none, none, none]) ?_ ?_
    · refine nx_for (P := RankP (tabD (r0 :: L0)) kd) (xs := rangeD 0 kd) (rng1_of (rs := [.d (.int (kd : Nat))]) ?_ rfl (by omega)) ⟨r0 :: L0, _, 0, none, none, none, none, .inl rfl, by decide, hR, by omega, trivial, trivial, trivial, trivial, rfl⟩ ?_ ?_
      · have hk := (hR r0 (by simp)).1
        simp [envOf, Arg.mv, fSeqS, fIfS, fTru, fBin, fName, fC, Res.bind, RV.view, MV.data, Cell.data, truR, truD, opGt, opLt, opLe, opGe, opInt, fSet, asg, RV.norm, RV.mv, setS_def, setO_none, setO_d, setO_own, fCall, fPCons, fPNil, views, opToInt, opMod, fSetIx, fTake, RV.take, opDiv, pokeE, fRet, outsOf, opAdd, opSub, opMul, fNextS, opLen, opAbs, fTup, fLst, fCons, fNil, fIf, fNeg, fAnd, fOr, fNot, fAndV, fOrV, fNotV, fIsa, fChain, fSl, fPart, fNoPart, opSl, opTuple, opList, opSum, opIs, isNone, opPow, fCallF, aNil, aDat, aRef, refsOf, toArgs, putOuts, putOut, Ret.rv, fBind, bTup, bCons, bNil, bName, fPar, fSeq, lkOf, fRng1, fRng2, fYes, fDic0, wipeE, restE, noCell, fZip, tabD_eq, ix_zero, rowD, hk]
      · rintro i x env hi ⟨L', o1, f, o3, o4, o5, o6, hL, hf, hRows, hl', k3, k4, k5, k6, rfl⟩
        obtain ⟨hik, rfl⟩ := range_at hi
        have hpow : 2 ^ i ≤ 2 ^ 8 := Nat.pow_le_pow_right (by decide) (by omega)
        have hl2 : L'.length ≤ 25600 := by omega
        refine ⟨[some (.d (tabD (r0 :: L0))), o1, some (.d (.int f)), some (.d (.int i)), o4, o5, o6, none, none, none, none], by simp [envOf, Arg.mv, fSeqS, fIfS, fTru, fBin, fName, fC, Res.bind, RV.view, MV.data, Cell.data, truR, truD, opGt, opLt, opLe, opGe, opInt, fSet, asg, RV.norm, RV.mv, setS_def, setO_none, setO_d, setO_own, fCall, fPCons, fPNil, views, opToInt, opMod, fSetIx, fTake, RV.take, opDiv, pokeE, fRet, outsOf, opAdd, opSub, opMul, fNextS, opLen, opAbs, fTup, fLst, fCons, fNil, fIf, fNeg, fAnd, fOr, fNot, fAndV, fOrV, fNotV, fIsa, fChain, fSl, fPart, fNoPart, opSl, opTuple, opList, opSum, opIs, isNone, opPow, fCallF, aNil, aDat, aRef, refsOf, toArgs, putOuts, putOut, Ret.rv, fBind, bTup, bCons, bNil, bName, fPar, fSeq, lkOf, fRng1, fRng2, fYes, fDic0, wipeE, restE, noCell, fZip, setO_ok k3], ?_⟩
        obtain ⟨A, hA, hc⟩ := leads_law (some (.d (tabD (r0 :: L0)))) o1 (some (.d (.int f))) o4 o5 o6 L' i kd (bd i) hL hRows hik (by omega)
        refine nx_seq (R := fun e => e = [some (.d (tabD (r0 :: L0))), o1, some (.d (.int f)), some (.d (.int i)), some (.cell .own (.lst (A.map PyData.int))), o5, o6, none, none, none, none]) ?_ ?_
        · simp [Nx, envOf, Arg.mv, fSeqS, fIfS, fTru, fBin, fName, fC, Res.bind, RV.view, MV.data, Cell.data, truR, truD, opGt, opLt, opLe, opGe, opInt, fSet, asg, RV.norm, RV.mv, setS_def, setO_none, setO_d, setO_own, fCall, fPCons, fPNil, views, opToInt, opMod, fSetIx, fTake, RV.take, opDiv, pokeE, fRet, outsOf, opAdd, opSub, opMul, fNextS, opLen, opAbs, fTup, fLst, fCons, fNil, fIf, fNeg, fAnd, fOr, fNot, fAndV, fOrV, fNotV, fIsa, fChain, fSl, fPart, fNoPart, opSl, opTuple, opList, opSum, opIs, isNone, opPow, fCallF, aNil, aDat, aRef, refsOf, toArgs, putOuts, putOut, Ret.rv, fBind, bTup, bCons, bNil, bName, fPar, fSeq, lkOf, fRng1, fRng2, fYes, fDic0, wipeE, restE, noCell, fZip, hc, setO_ok k4]
        rintro _ rfl
        refine nx_seq (R := RankP (tabD (r0 :: L0)) kd (i + 1)) ?_ fun e p => nx_end p
        cases A with
        | nil =>
          refine nx_if_f (e := [some (.d (tabD (r0 :: L0))), o1, some (.d (.int f)), some (.d (.int i)), some (.cell .own (.lst (([] : List Int).map PyData.int))), o5, o6, none, none, none, none]) ?_ (nx_end ⟨L', o1, f, _, _, o5, o6, hL, hf, hRows.next, by rw [Nat.pow_succ]; omega, okO_d, okO_own, k5, k6, rfl⟩)
          have := ne_nil []
          simp [envOf, Arg.mv, fSeqS, fIfS, fTru, fBin, fName, fC, Res.bind, RV.view, MV.data, Cell.data, truR, truD, opGt, opLt, opLe, opGe, opInt, fSet, asg, RV.norm, RV.mv, setS_def, setO_none, setO_d, setO_own, fCall, fPCons, fPNil, views, opToInt, opMod, fSetIx, fTake, RV.take, opDiv, pokeE, fRet, outsOf, opAdd, opSub, opMul, fNextS, opLen, opAbs, fTup, fLst, fCons, fNil, fIf, fNeg, fAnd, fOr, fNot, fAndV, fOrV, fNotV, fIsa, fChain, fSl, fPart, fNoPart, opSl, opTuple, opList, opSum, opIs, isNone, opPow, fCallF, aNil, aDat, aRef, refsOf, toArgs, putOuts, putOut, Ret.rv, fBind, bTup, bCons, bNil, bName, fPar, fSeq, lkOf, fRng1, fRng2, fYes, fDic0, wipeE, restE, noCell, fZip, lim] at this ⊢
          simp [this]
        | cons a A =>
          obtain ⟨n, rfl, hn⟩ := hA a (by simp)
          have hr : L'[n]? = some L'[n] := List.getElem?_eq_getElem hn
          have it := ix_tab hr
          refine nx_if_t (e := [some (.d (tabD (r0 :: L0))), o1, some (.d (.int f)), some (.d (.int i)), some (.cell .own (.lst (((n : Int) :: A).map PyData.int))), o5, o6, none, none, none, none]) ?_ ?_
          · have := ne_nil ((n : Int) :: A)
            simp [envOf, Arg.mv, fSeqS, fIfS, fTru, fBin, fName, fC, Res.bind, RV.view, MV.data, Cell.data, truR, truD, opGt, opLt, opLe, opGe, opInt, fSet, asg, RV.norm, RV.mv, setS_def, setO_none, setO_d, setO_own, fCall, fPCons, fPNil, views, opToInt, opMod, fSetIx, fTake, RV.take, opDiv, pokeE, fRet, outsOf, opAdd, opSub, opMul, fNextS, opLen, opAbs, fTup, fLst, fCons, fNil, fIf, fNeg, fAnd, fOr, fNot, fAndV, fOrV, fNotV, fIsa, fChain, fSl, fPart, fNoPart, opSl, opTuple, opList, opSum, opIs, isNone, opPow, fCallF, aNil, aDat, aRef, refsOf, toArgs, putOuts, putOut, Ret.rv, fBind, bTup, bCons, bNil, bName, fPar, fSeq, lkOf, fRng1, fRng2, fYes, fDic0, wipeE, restE, noCell, fZip, lim] at this ⊢
            simp [this]
          refine nx_seq (R := fun e => e = [some (.d (tabD (r0 :: L0))), o1, some (.d (.int (f + 1))), some (.d (.int i)), some (.cell .own (.lst (((n : Int) :: A).map PyData.int))), some (.d (rowD L'[n])), o6, none, none, none, none]) ?_ ?_
          · rcases hL with rfl | rfl <;> simp [Nx, envOf, Arg.mv, fSeqS, fIfS, fTru, fBin, fName, fC, Res.bind, RV.view, MV.data, Cell.data, truR, truD, opGt, opLt, opLe, opGe, opInt, fSet, asg, RV.norm, RV.mv, setS_def, setO_none, setO_d, setO_own, fCall, fPCons, fPNil, views, opToInt, opMod, fSetIx, fTake, RV.take, opDiv, pokeE, fRet, outsOf, opAdd, opSub, opMul, fNextS, opLen, opAbs, fTup, fLst, fCons, fNil, fIf, fNeg, fAnd, fOr, fNot, fAndV, fOrV, fNotV, fIsa, fChain, fSl, fPart, fNoPart, opSl, opTuple, opList, opSum, opIs, isNone, opPow, fCallF, aNil, aDat, aRef, refsOf, toArgs, putOuts, putOut, Ret.rv, fBind, bTup, bCons, bNil, bName, fPar, fSeq, lkOf, fRng1, fRng2, fYes, fDic0, wipeE, restE, noCell, fZip, tabD_eq, ix_zero, it, setO_ok k5, lim]
          rintro _ rfl
          refine nx_seq (R := fun e => ∃ L2 : List (List Int), L2.length ≤ 2 * L'.length ∧ (∀ r ∈ L2, r ∈ L') ∧ e = [some (.d (tabD (r0 :: L0))), o1, some (.d (.int (f + 1))), some (.d (.int i)), some (.cell .own (.lst (((n : Int) :: A).map PyData.int))), some (.d (rowD L'[n])), some (.cell .own (.lst (L2.map rowD))), none, none, none, none]) ?_ ?_
          · have c1 := cut_len L' none (some (n : Int))
            have c2 := cut_len L' (some ((n : Int) + 1)) none
            have c3 : (cutD (L'.map rowD) none (some (n : Int))).length + (cutD (L'.map rowD) (some ((n : Int) + 1)) none).length ≤ lim := by unfold lim; omega
            refine ⟨[some (.d (tabD (r0 :: L0))), o1, some (.d (.int (f + 1))), some (.d (.int i)), some (.cell .own (.lst (((n : Int) :: A).map PyData.int))), some (.d (rowD L'[n])), some (.cell .own (.lst (cutD (L'.map rowD) none (some (n : Int)) ++ cutD (L'.map rowD) (some ((n : Int) + 1)) none))), none, none, none, none], ?_, cutD L' none (some (n : Int)) ++ cutD L' (some ((n : Int) + 1)) none, ?_, ?_, ?_⟩
            · rcases hL with rfl | rfl <;> simp [envOf, Arg.mv, fSeqS, fIfS, fTru, fBin, fName, fC, Res.bind, RV.view, MV.data, Cell.data, truR, truD, opGt, opLt, opLe, opGe, opInt, fSet, asg, RV.norm, RV.mv, setS_def, setO_none, setO_d, setO_own, fCall, fPCons, fPNil, views, opToInt, opMod, fSetIx, fTake, RV.take, opDiv, pokeE, fRet, outsOf, opAdd, opSub, opMul, fNextS, opLen, opAbs, fTup, fLst, fCons, fNil, fIf, fNeg, fAnd, fOr, fNot, fAndV, fOrV, fNotV, fIsa, fChain, fSl, fPart, fNoPart, opSl, opTuple, opList, opSum, opIs, isNone, opPow, fCallF, aNil, aDat, aRef, refsOf, toArgs, putOuts, putOut, Ret.rv, fBind, bTup, bCons, bNil, bName, fPar, fSeq, lkOf, fRng1, fRng2, fYes, fDic0, wipeE, restE, noCell, fZip, tabD_eq, ix_zero, setO_ok k6, c3]
            · rw [cut_map, List.length_map] at c1 c2
              rw [List.length_append]; omega
            · intro r hr
              rcases List.mem_append.mp hr with h | h
              · exact cut_mem h
              · exact cut_mem h
            · rw [List.map_append, cut_map, cut_map]
          rintro _ ⟨L2, q1, q2, rfl⟩
          obtain ⟨L3, w1, w2, w3⟩ := left_law (some (.d (tabD (r0 :: L0)))) o1 (some (.d (.int (f + 1)))) (some (.cell .own (.lst (((n : Int) :: A).map PyData.int)))) L2 L'[n] i kd i (by omega) (fun r hr => hRows r (q2 r hr)) (hRows _ (List.getElem_mem hn)) hik (by omega) (by omega)
          refine nx_seq (R := RankP (tabD (r0 :: L0)) kd (i + 1)) ?_ fun e p => nx_end p
          refine ⟨[some (.d (tabD (r0 :: L0))), some (.cell .own (.lst (L3.map rowD))), some (.d (.int (f + 1))), some (.d (.int i)), some (.cell .own (.lst (((n : Int) :: A).map PyData.int))), some (.d (rowD L'[n])), some (.cell .own (.lst (L2.map rowD))), none, none, none, none], ?_, L3, _, f + 1, _, _, _, _, .inr rfl, by omega, w1, by rw [w2, Nat.pow_succ]; omega, okO_d, okO_own, okO_d, okO_own, rfl⟩
          unfold fSet
          rw [w3]
          simp [Res.bind, asg, RV.norm, RV.mv, setS_def, setO_ok hL.ok]
      · rintro e ⟨L', o1, f, o3, o4, o5, o6, hL, hf, _, _, _, _, _, _, rfl⟩
        exact ⟨_, o1, f, o3, o4, o5, o6, hf, rfl⟩
    rintro _ ⟨T, o1, f, o3, o4, o5, o6, hf, rfl⟩
    simp [Rt, envOf, Arg.mv, fSeqS, fIfS, fTru, fBin, fName, fC, Res.bind, RV.view, MV.data, Cell.data, truR, truD, opGt, opLt, opLe, opGe, opInt, fSet, asg, RV.norm, RV.mv, setS_def, setO_none, setO_d, setO_own, fCall, fPCons, fPNil, views, opToInt, opMod, fSetIx, fTake, RV.take, opDiv, pokeE, fRet, outsOf, opAdd, opSub, opMul, fNextS, opLen, opAbs, fTup, fLst, fCons, fNil, fIf, fNeg, fAnd, fOr, fNot, fAndV, fOrV, fNotV, fIsa, fChain, fSl, fPart, fNoPart, opSl, opTuple, opList, opSum, opIs, isNone, opPow, fCallF, aNil, aDat, aRef, refsOf, toArgs, putOuts, putOut, Ret.rv, fBind, bTup, bCons, bNil, bName, fPar, fSeq, lkOf, fRng1, fRng2, fYes, fDic0, wipeE, restE, noCell, fZip, hf]
  obtain ⟨v, e, h1, f, hf, rfl⟩ := fn_rt this
  exact ⟨f, _, hf, h1⟩
end BH.K01

set_option maxRecDepth 100000
set_option maxHeartbeats 4000000
namespace BH.K01
open PySem PySem.Spec PyProof.Rows L2
theorem cut_last (r : List Int) : (cutD r none (some (-1))).length = r.length - 1 := by
  unfold cutD HT.sIx
  simp
  try omega
def gCut : PyData → PyData
  | .list ds => .list (cutD ds none (some (-1)))
  | x => x
theorem cond_law (o0 : Option MV) (L : List (List Int)) (kd : Nat) (hL : LeftIs o0 L) (hkd : kd ≤ 8) (h0 : L ≠ []) (hlen : L.length ≤ 100) (hR : Rows kd 2 L) :
    ∃ b : Bool, (b = true → 3 < kd) ∧ fTru (fBin opGt (fBin opSub (fCall opLen (fPCons (fBin opIx (fName 0) (fC (.int 0))) fPNil)) (fCallF 1 F_law_rank (aDat (fTake (fName 0)) aNil))) (fC (.int 3))) [o0, none] = .ok (b, [some (.d (tabD L)), none]) := by
  obtain ⟨f, outs, hf, hF⟩ := rank_law L kd hkd h0 hlen hR
  obtain ⟨r0, L0, rfl⟩ : ∃ r0 L0, L = r0 :: L0 := by cases L with
    | nil => exact absurd rfl h0
    | cons r l => exact ⟨r, l, rfl⟩
  have hk := (hR r0 (by simp)).1
  have e0 : opIx (tabD (r0 :: L0)) (.int 0) = some (.d (rowD r0)) := ix_zero
  have e1 : opLen [rowD r0] = some (.d (.int (kd : Nat))) := by simp [rowD, opLen, hk]
  have ep : putOuts [.d (tabD (r0 :: L0))] outs [some (MV.d (tabD (r0 :: L0))), none] = [some (MV.d (tabD (r0 :: L0))), none] := by
    cases outs <;> rfl
  refine ⟨decide (3 < (kd : Int) - f), fun h => by have := of_decide_eq_true h; omega, ?_⟩
  have ec : ∀ env, env = [some (MV.d (tabD (r0 :: L0))), none] ∨ env = [some (MV.cell .own (.lst ((r0 :: L0).map rowD))), none] → fCallF 1 F_law_rank (aDat (fTake (fName 0)) aNil) env = .ok (.d (.int f), [some (MV.d (tabD (r0 :: L0))), none]) := by
    rintro _ (rfl | rfl)
    · have ea : aDat (fTake (fName 0)) aNil [some (MV.d (tabD (r0 :: L0))), none] = .ok ([.d (tabD (r0 :: L0))], [some (MV.d (tabD (r0 :: L0))), none]) := by simp [envOf, Arg.mv, fSeqS, fIfS, fTru, fBin, fName, fC, Res.bind, RV.view, MV.data, Cell.data, truR, truD, opGt, opLt, opLe, opGe, opInt, fSet, asg, RV.norm, RV.mv, setS_def, setO_none, setO_d, setO_own, fCall, fPCons, fPNil, views, opToInt, opMod, fSetIx, fTake, RV.take, opDiv, pokeE, fRet, outsOf, opAdd, opSub, opMul, fNextS, opLen, opAbs, fTup, fLst, fCons, fNil, fIf, fNeg, fAnd, fOr, fNot, fAndV, fOrV, fNotV, fIsa, fChain, fSl, fPart, fNoPart, opSl, opTuple, opList, opSum, opIs, isNone, opPow, fCallF, aNil, aDat, aRef, refsOf, toArgs, putOuts, putOut, Ret.rv, fBind, bTup, bCons, bNil, bName, fPar, fSeq, lkOf, fRng1, fRng2, fYes, fDic0, wipeE, restE, noCell, fZip]
      unfold fCallF
      rw [ea]
      simp only [Res.bind, refsOf, List.nodup_nil, if_true, toArgs, Option.map, List.length_singleton, hF, ep, Ret.rv]
    · have ea : aDat (fTake (fName 0)) aNil [some (MV.cell .own (.lst ((r0 :: L0).map rowD))), none] = .ok ([.d (tabD (r0 :: L0))], [some (MV.d (tabD (r0 :: L0))), none]) := by
        simp [envOf, Arg.mv, fSeqS, fIfS, fTru, fBin, fName, fC, Res.bind, RV.view, MV.data, Cell.data, truR, truD, opGt, opLt, opLe, opGe, opInt, fSet, asg, RV.norm, RV.mv, setS_def, setO_none, setO_d, setO_own, fCall, fPCons, fPNil, views, opToInt, opMod, fSetIx, fTake, RV.take, opDiv, pokeE, fRet, outsOf, opAdd, opSub, opMul, fNextS, opLen, opAbs, fTup, fLst, fCons, fNil, fIf, fNeg, fAnd, fOr, fNot, fAndV, fOrV, fNotV, fIsa, fChain, fSl, fPart, fNoPart, opSl, opTuple, opList, opSum, opIs, isNone, opPow, fCallF, aNil, aDat, aRef, refsOf, toArgs, putOuts, putOut, Ret.rv, fBind, bTup, bCons, bNil, bName, fPar, fSeq, lkOf, fRng1, fRng2, fYes, fDic0, wipeE, restE, noCell, fZip]; rfl
      unfold fCallF
      rw [ea]
      simp only [Res.bind, refsOf, List.nodup_nil, if_true, toArgs, Option.map, List.length_singleton, hF, ep, Ret.rv]
  have el : ∀ env, env = [some (MV.d (tabD (r0 :: L0))), none] ∨ env = [some (MV.cell .own (.lst ((r0 :: L0).map rowD))), none] → fCall opLen (fPCons (fBin opIx (fName 0) (fC (.int 0))) fPNil) env = .ok (.d (.int (kd : Nat)), env) := by
    rintro _ (rfl | rfl)
    · simp [fCall, fPCons, fPNil, fBin, fName, fC, Res.bind, RV.view, MV.data, Cell.data, e0, views, e1]
    · have e0' : opIx (.list ((r0 :: L0).map rowD)) (.int 0) = some (.d (rowD r0)) := e0
      simp only [fCall, fPCons, fPNil, fBin, fName, fC, Res.bind, RV.view, MV.data, Cell.data, e0', views, e1, List.getElem?_cons_zero]
  have key : ∀ env, env = [some (MV.d (tabD (r0 :: L0))), none] ∨ env = [some (MV.cell .own (.lst ((r0 :: L0).map rowD))), none] → fTru (fBin opGt (fBin opSub (fCall opLen (fPCons (fBin opIx (fName 0) (fC (.int 0))) fPNil)) (fCallF 1 F_law_rank (aDat (fTake (fName 0)) aNil))) (fC (.int 3))) env = .ok (decide (3 < (kd : Int) - f), [some (MV.d (tabD (r0 :: L0))), none]) := by
    intro env he
    have h1 : fBin opSub (fCall opLen (fPCons (fBin opIx (fName 0) (fC (.int 0))) fPNil)) (fCallF 1 F_law_rank (aDat (fTake (fName 0)) aNil)) env = .ok (.d (.int ((kd : Int) - f)), [some (MV.d (tabD (r0 :: L0))), none]) := by
      unfold fBin
      unfold fBin at el
      rw [el env he]
      simp only [Res.bind]
      rw [ec env he]
      rfl
    unfold fTru
    rw [show fBin opGt (fBin opSub (fCall opLen (fPCons (fBin opIx (fName 0) (fC (.int 0))) fPNil)) (fCallF 1 F_law_rank (aDat (fTake (fName 0)) aNil))) (fC (.int 3)) env = .ok (.d (.bool (decide (3 < (kd : Int) - f))), [some (MV.d (tabD (r0 :: L0))), none]) from by
      show (fBin opSub _ _ env).bind _ = _
      rw [h1]; rfl]
    rfl
  rcases hL with rfl | rfl
  · exact key _ (.inl rfl)
  · exact key _ (.inr rfl)
theorem cut_body (L : List (List Int)) (kd : Nat) (hlen : L.length ≤ 100) (hR : Rows kd 2 L) : ∃ L', Rows (kd - 1) 2 L' ∧ L'.length = L.length ∧ fSeqS (fSet 0 (fComp (fSeq (fName 0)) (bName 1) [1] fYes (fTake (fSl (fName 1) fNoPart (fPart (fNeg (fC (.int 1)))))))) fNextS [some (.d (tabD L)), none] = .ok (.nx, [some (.cell .own (.lst (L'.map rowD))), none]) := by
  have hc := comp_map (b := bName 1) (vs := [1]) (tt := fYes) (te := fTake (fSl (fName 1) fNoPart (fPart (fNeg (fC (.int 1)))))) (env := [some (.d (tabD L)), none]) (L.map rowD) gCut (by simp [noCell]) (fun x hx => by
    obtain ⟨r, hr, rfl⟩ := rows_mem hx
    simp [envOf, Arg.mv, fSeqS, fIfS, fTru, fBin, fName, fC, Res.bind, RV.view, MV.data, Cell.data, truR, truD, opGt, opLt, opLe, opGe, opInt, fSet, asg, RV.norm, RV.mv, setS_def, setO_none, setO_d, setO_own, fCall, fPCons, fPNil, views, opToInt, opMod, fSetIx, fTake, RV.take, opDiv, pokeE, fRet, outsOf, opAdd, opSub, opMul, fNextS, opLen, opAbs, fTup, fLst, fCons, fNil, fIf, fNeg, fAnd, fOr, fNot, fAndV, fOrV, fNotV, fIsa, fChain, fSl, fPart, fNoPart, opSl, opTuple, opList, opSum, opIs, isNone, opPow, fCallF, aNil, aDat, aRef, refsOf, toArgs, putOuts, putOut, Ret.rv, fBind, bTup, bCons, bNil, bName, fPar, fSeq, lkOf, fRng1, fRng2, fYes, fDic0, wipeE, restE, noCell, fZip, rowD, gCut]) (by rw [List.length_map]; unfold lim; omega)
  have e2 : (L.map rowD).map gCut = (L.map fun r => cutD r none (some (-1))).map rowD := by
    rw [List.map_map, List.map_map]
    refine List.map_congr_left fun r _ => ?_
    simp [gCut, rowD, cut_map]
  rw [e2] at hc
  refine ⟨L.map fun r => cutD r none (some (-1)), ?_, by simp, ?_⟩
  · intro r' hr'
    obtain ⟨r, hr, rfl⟩ := List.mem_map.mp hr'
    exact ⟨by rw [cut_last, (hR r hr).1], fun a ha => (hR r hr).2 a (cut_mem ha)⟩
  · have e1 : fSeq (fName 0) [some (.d (tabD L)), none] = .ok ((L.map rowD, []), [some (.d (tabD L)), none]) := by simp [envOf, Arg.mv, fSeqS, fIfS, fTru, fBin, fName, fC, Res.bind, RV.view, MV.data, Cell.data, truR, truD, opGt, opLt, opLe, opGe, opInt, fSet, asg, RV.norm, RV.mv, setS_def, setO_none, setO_d, setO_own, fCall, fPCons, fPNil, views, opToInt, opMod, fSetIx, fTake, RV.take, opDiv, pokeE, fRet, outsOf, opAdd, opSub, opMul, fNextS, opLen, opAbs, fTup, fLst, fCons, fNil, fIf, fNeg, fAnd, fOr, fNot, fAndV, fOrV, fNotV, fIsa, fChain, fSl, fPart, fNoPart, opSl, opTuple, opList, opSum, opIs, isNone, opPow, fCallF, aNil, aDat, aRef, refsOf, toArgs, putOuts, putOut, Ret.rv, fBind, bTup, bCons, bNil, bName, fPar, fSeq, lkOf, fRng1, fRng2, fYes, fDic0, wipeE, restE, noCell, fZip, tabD_eq]
    have e3 : fComp (fSeq (fName 0)) (bName 1) [1] fYes (fTake (fSl (fName 1) fNoPart (fPart (fNeg (fC (.int 1)))))) [some (.d (tabD L)), none] = .ok (.tmp (.lst ((L.map fun r => cutD r none (some (-1))).map rowD)), [some (.d (tabD L)), none]) := by
      unfold fComp
      rw [e1]
      simp only [Res.bind, lockAll, hc, unlockAll]
    rw [seq_nx (e := [some (.cell .own (.lst ((L.map fun r => cutD r none (some (-1))).map rowD))), none]) (by unfold fSet; rw [e3]; simp [Res.bind, asg, RV.norm, RV.mv, setS_def, setO_d])]
    rfl
def CutP (n : Nat) (e : SE) : Prop := ∃ (L : List (List Int)) (kd : Nat) (o0 : Option MV), 1 ≤ kd ∧ kd ≤ 8 ∧ L.length = n ∧ Rows kd 2 L ∧ LeftIs o0 L ∧ e = [o0, none]
theorem while_law : ∀ (n kd : Nat) (L : List (List Int)) (o0 : Option MV), kd < n → 1 ≤ kd → kd ≤ 8 → L ≠ [] → L.length ≤ 100 → Rows kd 2 L → LeftIs o0 L → ∃ e, fWhileN (fTru (fBin opGt (fBin opSub (fCall opLen (fPCons (fBin opIx (fName 0) (fC (.int 0))) fPNil)) (fCallF 1 F_law_rank (aDat (fTake (fName 0)) aNil))) (fC (.int 3)))) (fSeqS (fSet 0 (fComp (fSeq (fName 0)) (bName 1) [1] fYes (fTake (fSl (fName 1) fNoPart (fPart (fNeg (fC (.int 1)))))))) fNextS) n [o0, none] = .ok (.nx, e) ∧ CutP L.length e
  | 0, kd, L, o0, h, _, _, _, _, _, _ => by omega
  | n + 1, kd, L, o0, h, k1, k8, h0, hlen, hR, hL => by
    obtain ⟨b, hb, hc⟩ := cond_law o0 L kd hL k8 h0 hlen hR
    simp only [fWhileN, hc]
    cases b with
    | false => exact ⟨_, rfl, L, kd, _, k1, k8, rfl, hR, .inl rfl, rfl⟩
    | true =>
      have h3 := hb rfl
      obtain ⟨L', q1, q2, q3⟩ := cut_body L kd hlen hR
      simp only [q3]
      obtain ⟨e, w1, w2⟩ := while_law n (kd - 1) L' _ (by omega) (by omega) (by omega) (fun z => h0 (by rw [z] at q2; exact List.length_eq_zero_iff.mp q2.symm)) (by omega) q1 (.inr rfl)
      exact ⟨e, w1, by rw [← q2]; exact w2⟩
theorem cut_law (L : List (List Int)) (kd : Nat) (k1 : 1 ≤ kd) (k8 : kd ≤ 8) (h0 : L ≠ []) (hlen : L.length ≤ 100) (hR : Rows kd 2 L) :
    ∃ (L' : List (List Int)) (kd' : Nat) (v : Ret) (outs : List Arg), 1 ≤ kd' ∧ kd' ≤ 8 ∧ L'.length = L.length ∧ Rows kd' 2 L' ∧ (v = .d (tabD L') ∨ v = .tmp (.lst (L'.map rowD))) ∧ F_law_cut [.d (tabD L)] = .ok v outs := by
  have : Rt (f_law_cut (envOf 2 [.d (tabD L)])) fun v _ => ∃ (L' : List (List Int)) (kd' : Nat), 1 ≤ kd' ∧ kd' ≤ 8 ∧ L'.length = L.length ∧ Rows kd' 2 L' ∧ (v = .d (tabD L') ∨ v = .tmp (.lst (L'.map rowD))) := by
    unfold f_law_cut
    refine rt_seq (R := CutP L.length) ?_ ?_
    · exact while_law 100 kd L _ (by omega) k1 k8 h0 hlen hR (.inl rfl)
    rintro _ ⟨L', kd', o0, p1, p2, p3, p4, p5, rfl⟩
    refine rt_now ?_
    rcases p5 with rfl | rfl
    · exact ⟨.d (tabD L'), _, rfl, L', kd', p1, p2, p3, p4, .inl rfl⟩
    · exact ⟨.tmp (.lst (L'.map rowD)), _, rfl, L', kd', p1, p2, p3, p4, .inr rfl⟩
  obtain ⟨v, e, h1, L', kd', q1, q2, q3, q4, q5⟩ := fn_rt this
  exact ⟨L', kd', v, _, q1, q2, q3, q4, q5, h1⟩
end BH.K01

set_option maxRecDepth 100000
set_option maxHeartbeats 4000000
namespace BH.K01
open PySem PySem.Spec PyProof.Rows L2
def bk (g m t : Int) : Option MV := some (.cell .bor (deckC g m t))
theorem draw_at (g m t n : Int) (E : SE) (fe : CF) (he : fe (bk g m t :: E) = .ok (.int n, bk g m t :: E)) (h0 : 0 < n) (h1 : n < 2 ^ 64) : ∃ v g' m' t', 0 ≤ v ∧ v < n ∧ fCallF 2 F_law_draw (aRef 0 (aDat fe aNil)) (bk g m t :: E) = .ok (.d (.int v), bk g' m' t' :: E) := by
  obtain ⟨v, g', m', t', a1, a2, a3⟩ := draw_law g m t n h0 h1
  refine ⟨v, g', m', t', a1, a2, ?_⟩
  unfold bk at he ⊢
  simp [fCallF, aRef, aDat, aNil, he, Res.bind, refsOf, toArgs, a3, putOuts, putOut, Ret.rv]
theorem draw_c (g m t : Int) (n : Int) (E : SE) (h0 : 0 < n) (h1 : n < 2 ^ 64) : ∃ v g' m' t', 0 ≤ v ∧ v < n ∧ fCallF 2 F_law_draw (aRef 0 (aDat (fTake (fC (.int n))) aNil)) (bk g m t :: E) = .ok (.d (.int v), bk g' m' t' :: E) :=
  draw_at g m t n E _ rfl h0 h1
def scD (W : List (List Int)) : PyData := .tuple (W.map fun r => .tuple (r.map PyData.int))
def ScaleP (x : PyData) : Prop := ∃ (W : List (List Int)) (kd : Nat), x = scD W ∧ W ≠ [] ∧ W.length ≤ 10 ∧ 1 ≤ kd ∧ kd ≤ 8 ∧ Rows kd 6 W
def ScaleQ : Ret → SE → Prop := fun v e => ∃ (x : PyData) (g m t : Int) (E : SE), v = .d x ∧ ScaleP x ∧ e = bk g m t :: E
theorem add_c (g m t k n : Int) (E : SE) (h0 : 0 < n) (h1 : n < 2 ^ 64) : ∃ v g' m' t', k ≤ v ∧ v < k + n ∧ fBin opAdd (fC (.int k)) (fCallF 2 F_law_draw (aRef 0 (aDat (fTake (fC (.int n))) aNil))) (bk g m t :: E) = .ok (.d (.int v), bk g' m' t' :: E) := by
  obtain ⟨v, g', m', t', a1, a2, a3⟩ := draw_c g m t n E h0 h1
  refine ⟨k + v, g', m', t', by omega, by omega, ?_⟩
  simp [fBin, fC, Res.bind, a3, RV.view, opAdd]
theorem case1 (g m t : Int) (E : SE) (hE : E.length = 9) (h6 : E[5]? = some none) : Rt (fRet (fTup (fCons (fTake (fCall opTuple (fPCons (fComp (fRng1 (fPCons (fBin opAdd (fC (.int 1)) (fCallF 2 F_law_draw (aRef 0 (aDat (fTake (fC (.int 4))) aNil)))) fPNil)) (bName 6) [6] fYes (fTake (fBin opAdd (fC (.int 1)) (fCallF 2 F_law_draw (aRef 0 (aDat (fTake (fC (.int 6))) aNil)))))) fPNil))) fNil)) (bk g m t :: E)) ScaleQ := by
  obtain ⟨v, g1, m1, t1, v0, v1, hv⟩ := add_c g m t 1 4 E (by decide) (by decide)
  obtain ⟨k, rfl⟩ : ∃ k : Nat, v = k := ⟨v.toNat, by omega⟩
  have e1 : fRng1 (fPCons (fBin opAdd (fC (.int 1)) (fCallF 2 F_law_draw (aRef 0 (aDat (fTake (fC (.int 4))) aNil)))) fPNil) (bk g m t :: E) = .ok ((rangeD 0 k, []), bk g1 m1 t1 :: E) :=
    rng1_of (rs := [.d (.int (k : Nat))]) (by unfold fPCons; rw [hv]; rfl) rfl (by omega)
  have hl : (rangeD 0 k).length = k := by unfold rangeD; simp
  have h6' : E[5]? = some (none : Option MV) := h6
  obtain ⟨acc, e2, h1, A, g2, m2, t2, h2, h3, h4, h5⟩ := comp_inv (b := bName 6) (vs := [6]) (tt := fYes) (te := fTake (fBin opAdd (fC (.int 1)) (fCallF 2 F_law_draw (aRef 0 (aDat (fTake (fC (.int 6))) aNil)))))
    (fun i e acc => ∃ (A : List Int) (g m t : Int), acc = A.map PyData.int ∧ A.length = i ∧ (∀ a ∈ A, a.natAbs ≤ 6) ∧ e = bk g m t :: E) (rangeD 0 k) 0 (fun i x e acc hi ⟨A, g, m, t, h2, h3, h4, h5⟩ => by
      subst h2 h5
      obtain ⟨hi2, rfl⟩ := range_at hi
      have w : wipeE (bk g m t :: E) [6] = bk g m t :: E.set 5 none := by simp [wipeE]
      obtain ⟨v, g', m', t', b0, b1, hv⟩ := add_c g m t 1 6 (E.set 5 (some (.d (.int i)))) (by decide) (by decide)
      refine ⟨by simp [noCell, h6'], bk g m t :: E.set 5 (some (.d (.int i))), by rw [w]; simp [bName, setS_def, hE, setO_none], .inl ⟨bk g m t :: E.set 5 (some (.d (.int i))), .int v, bk g' m' t' :: E.set 5 (some (.d (.int i))), rfl, by rw [take_of hv]; rfl, by rw [List.length_map, h3]; unfold lim; omega, A ++ [v], g', m', t', by simp, by simp [h3], ?_, ?_⟩⟩
      · intro a ha
        rcases List.mem_append.mp ha with h | h
        · exact h4 a h
        · rw [List.mem_singleton] at h; omega
      · have : E.set 5 none = E := by
          apply List.ext_getElem?
          intro j
          by_cases hj : j = 5
          · subst hj; rw [List.getElem?_set_self (by omega), h6']
          · rw [List.getElem?_set_ne (Ne.symm hj)]
        simp [restE, h6', this]) (bk g1 m1 t1 :: E) [] ⟨[], g1, m1, t1, rfl, rfl, by simp, rfl⟩
  subst h2 h5
  have hc : fComp (fRng1 (fPCons (fBin opAdd (fC (.int 1)) (fCallF 2 F_law_draw (aRef 0 (aDat (fTake (fC (.int 4))) aNil)))) fPNil)) (bName 6) [6] fYes (fTake (fBin opAdd (fC (.int 1)) (fCallF 2 F_law_draw (aRef 0 (aDat (fTake (fC (.int 6))) aNil))))) (bk g m t :: E) = .ok (.tmp (.lst (A.map PyData.int)), bk g2 m2 t2 :: E) := by
    unfold fComp
    rw [e1]
    simp only [Res.bind, lockAll, h1, unlockAll]
  refine ⟨.d (scD [A]), bk g2 m2 t2 :: E, ?_, scD [A], g2, m2, t2, E, rfl, ⟨[A], k, rfl, by simp, by simp, by omega, by omega, fun r hr => ?_⟩, rfl⟩
  · simp [fRet, fTup, fCons, fTake, fCall, fPCons, fPNil, Res.bind, hc, views, RV.view, Cell.data, opTuple, RV.take, fNil, lim, scD]
  · rw [List.mem_singleton] at hr; subst hr
    exact ⟨by rw [h3, hl]; omega, h4⟩
end BH.K01

set_option maxRecDepth 100000
set_option maxHeartbeats 4000000
namespace BH.K01
open PySem PySem.Spec PyProof.Rows L2
theorem case2 (g m t : Int) (o1 : Option MV) (w : Int) (hw : w = 2 ∨ w = 3) : Rt (fSeqS (fSet 3 (fComp (fRng1 (fPCons (fC (.int 2)) fPNil)) (bName 7) [7] fYes (fTake (fCall opTuple (fPCons (fComp (fRng1 (fPCons (fBin opMul (fC (.int 2)) (fName 2)) fPNil)) (bName 8) [8] fYes (fTake (fCall opToInt (fPCons (fBin (opEq false) (fBin opDiv (fName 8) (fName 2)) (fName 7)) fPNil)))) fPNil))))) (fSeqS (fRet (fCall opTuple (fPCons (fBin opAdd (fName 3) (fComp (fRng1 (fPCons (fName 2) fPNil)) (bName 9) [9] fYes (fTake (fCall opTuple (fPCons (fComp (fRng1 (fPCons (fBin opMul (fC (.int 2)) (fName 2)) fPNil)) (bName 8) [8] fYes (fTake (fCall opToInt (fPCons (fBin (opEq false) (fBin opMod (fName 8) (fName 2)) (fName 9)) fPNil)))) fPNil))))) fPNil))) fNextS) [bk g m t, o1, some (.d (.int w)), none, none, none, none, none, none, none]) ScaleQ := by
  rcases hw with rfl | rfl
  · exact ⟨.d (scD [[1, 1, 0, 0], [0, 0, 1, 1], [1, 0, 1, 0], [0, 1, 0, 1]]), bk g m t :: [o1, some (.d (.int 2)), some (.cell .own (.lst [.tuple [.int 1, .int 1, .int 0, .int 0], .tuple [.int 0, .int 0, .int 1, .int 1]])), none, none, none, none, none, none], by kernel_rfl, _, g, m, t, [o1, some (.d (.int 2)), some (.cell .own (.lst [.tuple [.int 1, .int 1, .int 0, .int 0], .tuple [.int 0, .int 0, .int 1, .int 1]])), none, none, none, none, none, none], rfl, ⟨_, 4, rfl, by simp, by simp, by decide, by decide, by unfold Rows; decide⟩, rfl⟩
  · exact ⟨.d (scD [[1, 1, 1, 0, 0, 0], [0, 0, 0, 1, 1, 1], [1, 0, 0, 1, 0, 0], [0, 1, 0, 0, 1, 0], [0, 0, 1, 0, 0, 1]]), bk g m t :: [o1, some (.d (.int 3)), some (.cell .own (.lst [.tuple [.int 1, .int 1, .int 1, .int 0, .int 0, .int 0], .tuple [.int 0, .int 0, .int 0, .int 1, .int 1, .int 1]])), none, none, none, none, none, none], by kernel_rfl, _, g, m, t, [o1, some (.d (.int 3)), some (.cell .own (.lst [.tuple [.int 1, .int 1, .int 1, .int 0, .int 0, .int 0], .tuple [.int 0, .int 0, .int 0, .int 1, .int 1, .int 1]])), none, none, none, none, none, none], rfl, ⟨_, 6, rfl, by simp, by simp, by decide, by decide, by unfold Rows; decide⟩, rfl⟩
end BH.K01

set_option maxRecDepth 100000
set_option maxHeartbeats 4000000
namespace BH.K01
open PySem PySem.Spec PyProof.Rows L2
theorem tab_inv {b : BF} {vs : List Nat} {te : EF} (P : Nat → SE → List (List Int) → Prop) : ∀ (xs : List PyData) (k : Nat), (∀ (i : Nat) x env acc, xs[i]? = some x → P (k + i) env acc → noCell env vs = true ∧ ∃ e1, b x (wipeE env vs) = some e1 ∧
      ∃ (ns : List Int) (e3 : SE), te e1 = .ok (.tmp (.lst (ns.map PyData.int)), e3) ∧ acc.length < lim ∧ P (k + i + 1) (restE env vs e3) (acc ++ [ns])) →
    ∀ env acc, P k env acc → ∃ acc' e2, cLoop2 b vs te xs env acc = .ok (acc', e2) ∧ P (k + xs.length) e2 acc'
  | [], k, _, env, acc, p => ⟨acc, env, rfl, p⟩
  | x :: xs, k, h, env, acc, p => by
    obtain ⟨nc, e1, h1, ns, e3, h2, h3, p2⟩ := h 0 x env acc rfl p
    obtain ⟨acc', e2, q1, q2⟩ := tab_inv (te := te) (b := b) (vs := vs) P xs (k + 1) (fun i y env acc hi q => by
      have := h (i + 1) y env acc (by simpa using hi) (by rw [← Nat.add_assoc, Nat.add_right_comm]; exact q)
      rw [show k + (i + 1) = k + 1 + i by omega] at this
      exact this) _ _ p2
    refine ⟨acc', e2, ?_, by rw [List.length_cons, show k + (xs.length + 1) = k + 1 + xs.length by omega]; exact q2⟩
    simp only [cLoop2, nc, if_true, h1, h2, intsOf_ints, h3]
    exact q1
theorem set_none {E : SE} {j : Nat} (h : E[j]? = some none) : E.set j none = E := by
  apply List.ext_getElem?
  intro i
  by_cases hi : i = j
  · subst hi; rw [List.getElem?_set_self (List.getElem?_eq_some_iff.mp h).1, h]
  · rw [List.getElem?_set_ne (Ne.symm hi)]
/-- a row of draws -/
theorem row_law (g m t : Int) (E : SE) (kn : Nat) (hE : E.length = 9) (h4 : E[3]? = some (some (.d (.int (kn : Nat))))) (h6 : E[5]? = some none) (hk : kn ≤ 100) :
    ∃ (A : List Int) (g' m' t' : Int), A.length = kn ∧ (∀ a ∈ A, a.natAbs ≤ 2) ∧ fComp (fRng1 (fPCons (fName 4) fPNil)) (bName 6) [6] fYes (fTake (fCallF 2 F_law_draw (aRef 0 (aDat (fTake (fC (.int 2))) aNil)))) (bk g m t :: E) = .ok (.tmp (.lst (A.map PyData.int)), bk g' m' t' :: E) := by
  have e1 : fRng1 (fPCons (fName 4) fPNil) (bk g m t :: E) = .ok ((rangeD 0 kn, []), bk g m t :: E) := rng1_of (rs := [.d (.int (kn : Nat))]) (by simp [fPCons, fPNil, fName, h4, Res.bind]) rfl (by omega)
  have hl : (rangeD 0 kn).length = kn := by unfold rangeD; simp
  obtain ⟨acc, e2, h1, A, g2, m2, t2, h2, h3, h5, h7⟩ := comp_inv (b := bName 6) (vs := [6]) (tt := fYes) (te := fTake (fCallF 2 F_law_draw (aRef 0 (aDat (fTake (fC (.int 2))) aNil))))
    (fun i e acc => ∃ (A : List Int) (g m t : Int), acc = A.map PyData.int ∧ A.length = i ∧ (∀ a ∈ A, a.natAbs ≤ 2) ∧ e = bk g m t :: E) (rangeD 0 kn) 0 (fun i x e acc hi ⟨A, g, m, t, h2, h3, h5, h7⟩ => by
      subst h2 h7
      obtain ⟨hi2, rfl⟩ := range_at hi
      have w : wipeE (bk g m t :: E) [6] = bk g m t :: E.set 5 none := by simp [wipeE]
      obtain ⟨v, g', m', t', b0, b1, hv⟩ := draw_c g m t 2 (E.set 5 (some (.d (.int i)))) (by decide) (by decide)
      refine ⟨by simp [noCell, h6], bk g m t :: E.set 5 (some (.d (.int i))), by rw [w]; simp [bName, setS_def, hE, setO_none], .inl ⟨bk g m t :: E.set 5 (some (.d (.int i))), .int v, bk g' m' t' :: E.set 5 (some (.d (.int i))), rfl, by rw [take_of hv]; rfl, by rw [List.length_map, h3]; unfold lim; omega, A ++ [v], g', m', t', by simp, by simp [h3], ?_, ?_⟩⟩
      · intro a ha
        rcases List.mem_append.mp ha with h | h
        · exact h5 a h
        · rw [List.mem_singleton] at h; omega
      · simp [restE, h6, set_none h6]) (bk g m t :: E) [] ⟨[], g, m, t, rfl, rfl, by simp, rfl⟩
  subst h2 h7
  refine ⟨A, g2, m2, t2, by rw [h3, hl]; omega, h5, ?_⟩
  unfold fComp
  rw [e1]
  simp only [Res.bind, lockAll, h1, unlockAll]
theorem tab_law (g m t : Int) (o1 : Option MV) (kn mn : Nat) (hk : kn ≤ 100) (hm : mn ≤ 100) :
    ∃ (W : List (List Int)) (g' m' t' : Int), W.length = mn ∧ Rows kn 2 W ∧ fTab (fRng1 (fPCons (fName 5) fPNil)) (bName 7) [7] (fComp (fRng1 (fPCons (fName 4) fPNil)) (bName 6) [6] fYes (fTake (fCallF 2 F_law_draw (aRef 0 (aDat (fTake (fC (.int 2))) aNil)))))
      [bk g m t, o1, none, none, some (.d (.int (kn : Nat))), some (.d (.int (mn : Nat))), none, none, none, none] = .ok (W, [bk g' m' t', o1, none, none, some (.d (.int (kn : Nat))), some (.d (.int (mn : Nat))), none, none, none, none]) := by
  have e1 : fRng1 (fPCons (fName 5) fPNil) [bk g m t, o1, none, none, some (.d (.int (kn : Nat))), some (.d (.int (mn : Nat))), none, none, none, none] = .ok ((rangeD 0 mn, []), [bk g m t, o1, none, none, some (.d (.int (kn : Nat))), some (.d (.int (mn : Nat))), none, none, none, none]) :=
    rng1_of (rs := [.d (.int (mn : Nat))]) (by simp [fPCons, fPNil, fName, Res.bind]) rfl (by omega)
  have hl : (rangeD 0 mn).length = mn := by unfold rangeD; simp
  obtain ⟨W, e2, h1, g2, m2, t2, h2, h3, h4⟩ := tab_inv (b := bName 7) (vs := [7]) (te := fComp (fRng1 (fPCons (fName 4) fPNil)) (bName 6) [6] fYes (fTake (fCallF 2 F_law_draw (aRef 0 (aDat (fTake (fC (.int 2))) aNil)))))
    (fun i e acc => ∃ g m t : Int, acc.length = i ∧ Rows kn 2 acc ∧ e = [bk g m t, o1, none, none, some (.d (.int (kn : Nat))), some (.d (.int (mn : Nat))), none, none, none, none]) (rangeD 0 mn) 0 (fun i x e acc hi ⟨g, m, t, h2, h3, h4⟩ => by
      subst h4
      obtain ⟨hi2, rfl⟩ := range_at hi
      obtain ⟨A, g', m', t', a1, a2, a3⟩ := row_law g m t [o1, none, none, some (.d (.int (kn : Nat))), some (.d (.int (mn : Nat))), none, some (.d (.int (i : Nat))), none, none] kn rfl rfl rfl hk
      refine ⟨rfl, [bk g m t, o1, none, none, some (.d (.int (kn : Nat))), some (.d (.int (mn : Nat))), none, some (.d (.int (i : Nat))), none, none], rfl, A, _, a3, by rw [h2]; unfold lim; omega, g', m', t', by simp [h2], ?_, rfl⟩
      intro r hr
      rcases List.mem_append.mp hr with h | h
      · exact h3 r h
      · rw [List.mem_singleton] at h; subst h; exact ⟨a1, a2⟩) _ [] ⟨g, m, t, rfl, fun r hr => by simp at hr, rfl⟩
  subst h4
  refine ⟨W, g2, m2, t2, by rw [h2, hl]; omega, h3, ?_⟩
  unfold fTab
  rw [e1]
  simp only [Res.bind, lockAll, h1, unlockAll]
def gIx (k : Nat) : PyData → PyData
  | .list ds => ds.getD k .none
  | x => x
theorem bin_of {op : PyData → PyData → Option RV} {fa fb : EF} {env e1 e2 : SE} {ra rb r : RV} {x y : PyData} (ha : fa env = .ok (ra, e1)) (hb : fb e1 = .ok (rb, e2)) (hx : ra.view e2 = some x) (hy : rb.view e2 = some y) (ho : op x y = some r) : fBin op fa fb env = .ok (r, e2) := by
  unfold fBin
  rw [ha]
  simp only [Res.bind]
  rw [hb]
  simp only
  rw [hx, hy]
  simp only [ho]
theorem tru_of {f : EF} {env e : SE} {r : RV} {x : PyData} {b : Bool} (h : f env = .ok (r, e)) (hv : r.view e = some x) (ht : truD x = some b) : fTru f env = .ok (b, e) := by
  unfold fTru
  rw [h]
  simp only [Res.bind]
  unfold truR
  rw [hv]
  simp only [ht]
theorem test_law (g m t : Int) (o1 : Option MV) (x4 x5 : PyData) (W : List (List Int)) (kn k : Nat) (hR : Rows kn 2 W) (hk : k < kn) (hl : W.length ≤ 100) :
    ∃ b : Bool, fTru (fBin (opEq false) (fCall opSum (fPCons (fComp (fSeq (fName 3)) (bName 7) [7] fYes (fTake (fBin opIx (fName 7) (fName 6)))) fPNil)) (fC (.int 0))) [bk g m t, o1, none, some (.d (tabD W)), some (.d x4), some (.d x5), some (.d (.int (k : Nat))), none, none, none] = .ok (b, [bk g m t, o1, none, some (.d (tabD W)), some (.d x4), some (.d x5), some (.d (.int (k : Nat))), none, none, none]) := by
  have key : ∀ r ∈ W, ∃ z, r[k]? = some z := fun r hr => ⟨_, List.getElem?_eq_getElem (by rw [(hR r hr).1]; exact hk)⟩
  have hc := comp_map (b := bName 7) (vs := [7]) (tt := fYes) (te := fTake (fBin opIx (fName 7) (fName 6))) (env := [bk g m t, o1, none, some (.d (tabD W)), some (.d x4), some (.d x5), some (.d (.int (k : Nat))), none, none, none]) (W.map rowD) (gIx k) rfl (fun x hx => by
    obtain ⟨r, hr, rfl⟩ := rows_mem hx
    obtain ⟨z, hz⟩ := key r hr
    have gi : gIx k (rowD r) = .int z := by simp [gIx, rowD, hz]
    refine ⟨[bk g m t, o1, none, some (.d (tabD W)), some (.d x4), some (.d x5), some (.d (.int (k : Nat))), some (.d (rowD r)), none, none], rfl, [bk g m t, o1, none, some (.d (tabD W)), some (.d x4), some (.d x5), some (.d (.int (k : Nat))), some (.d (rowD r)), none, none], [bk g m t, o1, none, some (.d (tabD W)), some (.d x4), some (.d x5), some (.d (.int (k : Nat))), some (.d (rowD r)), none, none], rfl, ?_, rfl⟩
    rw [take_of (bin_of (ra := .d (rowD r)) (rb := .d (.int (k : Nat))) rfl rfl rfl rfl (ix_row hz)), gi]
    rfl) (by rw [List.length_map]; unfold lim; omega)
  have e2 : (W.map rowD).map (gIx k) = (W.map fun r => r.getD k 0).map PyData.int := by
    rw [List.map_map, List.map_map]
    refine List.map_congr_left fun r hr => ?_
    obtain ⟨z, hz⟩ := key r hr
    simp [gIx, rowD, hz]
  rw [e2] at hc
  have e1 : fSeq (fName 3) [bk g m t, o1, none, some (.d (tabD W)), some (.d x4), some (.d x5), some (.d (.int (k : Nat))), none, none, none] = .ok ((W.map rowD, []), [bk g m t, o1, none, some (.d (tabD W)), some (.d x4), some (.d x5), some (.d (.int (k : Nat))), none, none, none]) := rfl
  have e3 : fComp (fSeq (fName 3)) (bName 7) [7] fYes (fTake (fBin opIx (fName 7) (fName 6))) [bk g m t, o1, none, some (.d (tabD W)), some (.d x4), some (.d x5), some (.d (.int (k : Nat))), none, none, none] = .ok (.tmp (.lst ((W.map fun r => r.getD k 0).map PyData.int)), [bk g m t, o1, none, some (.d (tabD W)), some (.d x4), some (.d x5), some (.d (.int (k : Nat))), none, none, none]) := by
    unfold fComp
    rw [e1]
    simp only [Res.bind, lockAll, hc, unlockAll]
  have e4 : fCall opSum (fPCons (fComp (fSeq (fName 3)) (bName 7) [7] fYes (fTake (fBin opIx (fName 7) (fName 6)))) fPNil) [bk g m t, o1, none, some (.d (tabD W)), some (.d x4), some (.d x5), some (.d (.int (k : Nat))), none, none, none] = .ok (.d (.int (W.map fun r => r.getD k 0).sum), [bk g m t, o1, none, some (.d (tabD W)), some (.d x4), some (.d x5), some (.d (.int (k : Nat))), none, none, none]) := by
    unfold fCall fPCons
    rw [e3]
    simp only [Res.bind, fPNil, views, RV.view, Cell.data, opSum, intsOf_ints, Option.map]
  refine ⟨(W.map fun r => r.getD k 0).sum == 0, ?_⟩
  exact tru_of (bin_of (rb := .d (.int 0)) e4 rfl rfl rfl (eq_int false _ 0)) rfl rfl
theorem ixN_nat {n j : Nat} (h : j < n) : ixN n (j : Int) = some j := by simp [ixN, h]
theorem fix_law (o1 : Option MV) (ho1 : flatO o1 = true) (kn mn : Nat) (hm0 : 0 < mn) (hm : mn ≤ 100) : ∀ (ys : List PyData), (∀ x ∈ ys, ∃ k : Nat, x = .int (k : Nat) ∧ k < kn) → ∀ (g m t : Int) (W : List (List Int)) (o6 : Option MV), Rows kn 2 W → W.length = mn → okO o6 →
    ∃ (W' : List (List Int)) (g' m' t' : Int) (o6' : Option MV), Rows kn 2 W' ∧ W'.length = mn ∧ fixLoop (fTru (fBin (opEq false) (fCall opSum (fPCons (fComp (fSeq (fName 3)) (bName 7) [7] fYes (fTake (fBin opIx (fName 7) (fName 6)))) fPNil)) (fC (.int 0)))) (fCallF 2 F_law_draw (aRef 0 (aDat (fTake (fName 5)) aNil))) 3 7 6 ys
      [bk g m t, o1, none, some (.d (tabD W)), some (.d (.int (kn : Nat))), some (.d (.int (mn : Nat))), o6, none, none, none] W = .ok (W', [bk g' m' t', o1, none, some (.d (tabD W')), some (.d (.int (kn : Nat))), some (.d (.int (mn : Nat))), o6', none, none, none])
  | [], _, g, m, t, W, o6, hR, hl, _ => ⟨W, g, m, t, o6, hR, hl, rfl⟩
  | x :: ys, hy, g, m, t, W, o6, hR, hl, h6 => by
    obtain ⟨k, rfl, hk⟩ := hy x (by simp)
    have hb : bName 6 (.int (k : Nat)) [bk g m t, o1, none, some (.d (tabD W)), some (.d (.int (kn : Nat))), some (.d (.int (mn : Nat))), o6, none, none, none] = some [bk g m t, o1, none, some (.d (tabD W)), some (.d (.int (kn : Nat))), some (.d (.int (mn : Nat))), some (.d (.int (k : Nat))), none, none, none] := by
      simp [bName, setS_def, setO_ok h6]
    obtain ⟨b, ht⟩ := test_law g m t o1 (.int (kn : Nat)) (.int (mn : Nat)) W kn k hR hk (by omega)
    have ih := fix_law o1 ho1 kn mn hm0 hm ys (fun x hx => hy x (by simp [hx]))
    simp only [fixLoop, hb, ht]
    cases b with
    | false => exact ih g m t W _ hR hl okO_d
    | true =>
      obtain ⟨v, g', m', t', v0, v1, hv⟩ := draw_at g m t (mn : Nat) [o1, none, some (.d (tabD W)), some (.d (.int (kn : Nat))), some (.d (.int (mn : Nat))), some (.d (.int (k : Nat))), none, none, none] (fTake (fName 5)) rfl (by omega) (by omega)
      obtain ⟨j, rfl⟩ : ∃ j : Nat, v = j := ⟨v.toNat, by omega⟩
      have hj : j < W.length := by omega
      have hw : W[j]? = some W[j] := List.getElem?_eq_getElem hj
      have hwl := (hR _ (List.getElem_mem hj)).1
      have c : (flatAll (([bk g' m' t', o1, none, some (.d (tabD W)), some (.d (.int (kn : Nat))), some (.d (.int (mn : Nat))), some (.d (.int (k : Nat))), none, none, none].set 7 none).set 3 none) && noCell [bk g' m' t', o1, none, some (.d (tabD W)), some (.d (.int (kn : Nat))), some (.d (.int (mn : Nat))), some (.d (.int (k : Nat))), none, none, none] [7, 3]) = true := by
        simp [flatAll, noCell, bk, ho1, show ∀ x, flatO (some (.d (.int x))) = true from fun _ => rfl, show flatO none = true from rfl, show ∀ g m t, flatO (some (.cell .bor (deckC g m t))) = true from fun _ _ _ => rfl]
      simp only [hv, List.getElem?_cons_succ, List.getElem?_cons_zero, ixN_nat hj, hw, ixN_nat (show k < W[j].length by rw [hwl]; exact hk), c]
      rw [if_pos ⟨trivial, by simp, by simp⟩]
      refine ih g' m' t' (W.set j (W[j].set k 1)) (some (.d (.int (k : Nat)))) ?_ (by rw [List.length_set]; exact hl) okO_d
      intro r hr
      rcases List.mem_or_eq_of_mem_set hr with h | h
      · exact hR r h
      · subst h
        refine ⟨by rw [List.length_set]; exact hwl, fun a ha => ?_⟩
        rcases List.mem_or_eq_of_mem_set ha with h | h
        · exact (hR _ (List.getElem_mem hj)).2 a h
        · subst h; decide
end BH.K01

set_option maxRecDepth 100000
set_option maxHeartbeats 4000000
namespace BH.K01
open PySem PySem.Spec PyProof.Rows L2
theorem rt_if_t {c : TF} {a b : SF} {env e : SE} {Q : Ret → SE → Prop} (h : c env = .ok (true, e)) (ha : Rt (a e) Q) : Rt (fIfS c a b env) Q := by rw [if_t h]; exact ha
theorem set_of {i : Nat} {f : EF} {env e e' : SE} {r : RV} (h : f env = .ok (r, e)) (hs : asg r e i = some e') : fSet i f env = .ok (.nx, e') := by
  unfold fSet
  rw [h]
  simp only [Res.bind]
  rw [hs]
theorem call1_of {op : List PyData → Option RV} {f : EF} {env e : SE} {r res : RV} {x : PyData} (h : f env = .ok (r, e)) (hv : r.view e = some x) (ho : op [x] = some res) : fCall op (fPCons f fPNil) env = .ok (res, e) := by
  unfold fCall fPCons
  rw [h]
  simp only [Res.bind, fPNil, views]
  rw [hv]
  simp only [ho]
theorem ret_of {f : EF} {env e : SE} {x : PyData} (h : f env = .ok (.d x, e)) : fRet f env = .ok (.rt (.d x), e) := by
  unfold fRet
  rw [h]
  rfl
theorem take_d {f : EF} {env e : SE} {x : PyData} (h : f env = .ok (.d x, e)) : fTake f env = .ok (x, e) := by rw [take_of h]; rfl
theorem take_t {f : EF} {env e : SE} {xs : List PyData} (h : f env = .ok (.tmp (.lst xs), e)) : fTake f env = .ok (.list xs, e) := by rw [take_of h]; rfl
theorem cons_of {f : CF} {t : CFs} {env e1 e2 : SE} {x : PyData} {xs : List PyData} (h : f env = .ok (x, e1)) (ht : t e1 = .ok (xs, e2)) : fCons f t env = .ok (x :: xs, e2) := by
  unfold fCons
  rw [h]
  simp only [Res.bind]
  rw [ht]
theorem tup_of {f : CFs} {env e : SE} {xs : List PyData} (h : f env = .ok (xs, e)) (hl : xs.length ≤ lim) : fTup f env = .ok (.d (.tuple xs), e) := by
  unfold fTup
  rw [h]
  simp only [Res.bind]
  rw [if_pos hl]
theorem lst_of {f : CFs} {env e : SE} {xs : List PyData} (h : f env = .ok (xs, e)) (hl : xs.length ≤ lim) : fLst f env = .ok (.tmp (.lst xs), e) := by
  unfold fLst
  rw [h]
  simp only [Res.bind]
  rw [if_pos hl]
theorem bind_of {b : BF} {f : CF} {env e e' : SE} {x : PyData} (h : f env = .ok (x, e)) (hb : b x e = some e') : fBind b f env = .ok (.nx, e') := by
  unfold fBind
  rw [h]
  simp only [Res.bind]
  rw [hb]
theorem rows_of {fi : IF} {b : BF} {vs : List Nat} {te : EF} {f2 : EFs} {test : TF} {call : EF} {rw ro ki n : Nat} {rest : SF} {env e1 e2 e3 e4 : SE} {W W' : List (List Int)} {rs : List RV} (h1 : fTab fi b vs te env = .ok (W, e1)) (h2 : setS e1 rw (.d (tabD W)) = some e2) (h3 : f2 e2 = .ok (rs, e3)) (h4 : views rs e3 = some [.int (n : Int)]) (hn : n ≤ 102400)
    (h5 : fixLoop test call rw ro ki (rangeD 0 n) e3 W = .ok (W', e4)) : fRows fi b vs te f2 test call rw ro ki rest env = rest e4 := by
  have hr : rngG (n : Int) := ⟨by omega, by omega⟩
  unfold fRows
  rw [h1]
  simp only [Res.bind]
  rw [h2]
  simp only
  rw [h3]
  simp only
  rw [h4]
  simp only
  rw [if_pos hr, Int.toNat_natCast, h5]
def gT : PyData → PyData
  | .list ds => .tuple ds
  | x => x
theorem end_law (g m t : Int) (o1 x4 x5 o6 : Option MV) (W : List (List Int)) (kd : Nat) (k1 : 1 ≤ kd) (k8 : kd ≤ 8) (h0 : W ≠ []) (hlen : W.length ≤ 10) (hR : Rows kd 2 W) :
    Rt (fRet (fCall opTuple (fPCons (fComp (fSeq (fCallF 1 F_law_cut (aDat (fTake (fName 3)) aNil))) (bName 7) [7] fYes (fTake (fCall opTuple (fPCons (fName 7) fPNil)))) fPNil)) [bk g m t, o1, none, some (.d (tabD W)), x4, x5, o6, none, none, none]) ScaleQ := by
  obtain ⟨L, kd', v, outs, q1, q2, q3, q4, q5, q6⟩ := cut_law W kd k1 k8 h0 (by omega) hR
  have ep : putOuts [.d (tabD W)] outs [bk g m t, o1, none, some (.d (tabD W)), x4, x5, o6, none, none, none] = [bk g m t, o1, none, some (.d (tabD W)), x4, x5, o6, none, none, none] := by cases outs <;> rfl
  have ec : fCallF 1 F_law_cut (aDat (fTake (fName 3)) aNil) [bk g m t, o1, none, some (.d (tabD W)), x4, x5, o6, none, none, none] = .ok (v.rv, [bk g m t, o1, none, some (.d (tabD W)), x4, x5, o6, none, none, none]) := by
    have ea : aDat (fTake (fName 3)) aNil [bk g m t, o1, none, some (.d (tabD W)), x4, x5, o6, none, none, none] = .ok ([.d (tabD W)], [bk g m t, o1, none, some (.d (tabD W)), x4, x5, o6, none, none, none]) := rfl
    unfold fCallF
    rw [ea]
    simp only [Res.bind, refsOf, List.nodup_nil, if_true, toArgs, Option.map, List.length_singleton, q6, ep]
  have es : fSeq (fCallF 1 F_law_cut (aDat (fTake (fName 3)) aNil)) [bk g m t, o1, none, some (.d (tabD W)), x4, x5, o6, none, none, none] = .ok ((L.map rowD, []), [bk g m t, o1, none, some (.d (tabD W)), x4, x5, o6, none, none, none]) := by
    unfold fSeq
    rw [ec]
    rcases q5 with rfl | rfl <;> rfl
  have hc := comp_map (b := bName 7) (vs := [7]) (tt := fYes) (te := fTake (fCall opTuple (fPCons (fName 7) fPNil))) (env := [bk g m t, o1, none, some (.d (tabD W)), x4, x5, o6, none, none, none]) (L.map rowD) gT rfl (fun x hx => by
    obtain ⟨r, hr, rfl⟩ := rows_mem hx
    exact ⟨[bk g m t, o1, none, some (.d (tabD W)), x4, x5, o6, some (.d (rowD r)), none, none], rfl, [bk g m t, o1, none, some (.d (tabD W)), x4, x5, o6, some (.d (rowD r)), none, none], [bk g m t, o1, none, some (.d (tabD W)), x4, x5, o6, some (.d (rowD r)), none, none], rfl, rfl, rfl⟩) (by rw [List.length_map]; unfold lim; omega)
  have e2 : (L.map rowD).map gT = L.map fun r => .tuple (r.map PyData.int) := by
    rw [List.map_map]
    exact List.map_congr_left fun r _ => rfl
  rw [e2] at hc
  have ef : fComp (fSeq (fCallF 1 F_law_cut (aDat (fTake (fName 3)) aNil))) (bName 7) [7] fYes (fTake (fCall opTuple (fPCons (fName 7) fPNil))) [bk g m t, o1, none, some (.d (tabD W)), x4, x5, o6, none, none, none] = .ok (.tmp (.lst (L.map fun r => .tuple (r.map PyData.int))), [bk g m t, o1, none, some (.d (tabD W)), x4, x5, o6, none, none, none]) := by
    unfold fComp
    rw [es]
    simp only [Res.bind, lockAll, hc, unlockAll]
  refine ⟨.d (scD L), [bk g m t, o1, none, some (.d (tabD W)), x4, x5, o6, none, none, none], ?_, scD L, g, m, t, _, rfl, ⟨L, kd', rfl, fun z => h0 (by rw [z] at q3; exact List.length_eq_zero_iff.mp q3.symm), by omega, q1, q2, fun r hr => ⟨(q4 r hr).1, fun a ha => by have := (q4 r hr).2 a ha; omega⟩⟩, rfl⟩
  exact ret_of (call1_of ef rfl rfl)
theorem scale_law (g m t : Int) : ∃ (x : PyData) (g' m' t' : Int), ScaleP x ∧ F_law_scale [.bor (deckC g m t)] = .ok (.d x) [.bor (deckC g' m' t')] := by
  have : Rt (f_law_scale (envOf 10 [.bor (deckC g m t)])) ScaleQ := by
    unfold f_law_scale
    have e0 : envOf 10 [.bor (deckC g m t)] = bk g m t :: [none, none, none, none, none, none, none, none, none] := rfl
    rw [e0]
    obtain ⟨w, g1, m1, t1, w0, w1, hv⟩ := draw_c g m t 4 [none, none, none, none, none, none, none, none, none] (by decide) (by decide)
    refine rt_seq (R := fun e => e = [bk g1 m1 t1, some (.d (.int w)), none, none, none, none, none, none, none, none]) ⟨_, set_of hv rfl, rfl⟩ ?_
    rintro _ rfl
    have c1 : fTru (fBin opLt (fName 1) (fC (.int 2))) [bk g1 m1 t1, some (.d (.int w)), none, none, none, none, none, none, none, none] = .ok (decide (w < 2), [bk g1 m1 t1, some (.d (.int w)), none, none, none, none, none, none, none, none]) :=
      tru_of (x := .bool (decide (w < 2))) (bin_of (ra := .d (.int w)) (rb := .d (.int 2)) rfl rfl rfl rfl rfl) rfl rfl
    by_cases h1 : w < 2
    · rw [decide_eq_true h1] at c1
      exact rt_now (rt_if_t c1 (rt_now (case1 _ _ _ _ rfl rfl)))
    rw [decide_eq_false h1] at c1
    refine rt_seq (R := fun e => e = [bk g1 m1 t1, some (.d (.int w)), none, none, none, none, none, none, none, none]) (nx_if_f c1 (nx_end rfl)) ?_
    rintro _ rfl
    have c2 : fTru (fBin (opEq false) (fName 1) (fC (.int 2))) [bk g1 m1 t1, some (.d (.int w)), none, none, none, none, none, none, none, none] = .ok (w == 2, [bk g1 m1 t1, some (.d (.int w)), none, none, none, none, none, none, none, none]) :=
      tru_of (x := .bool (w == 2)) (bin_of (ra := .d (.int w)) (rb := .d (.int 2)) rfl rfl rfl rfl (eq_int false w 2)) rfl rfl
    by_cases h2 : w = 2
    · rw [beq_iff_eq.mpr h2] at c2
      refine rt_now (rt_if_t c2 ?_)
      obtain ⟨v, g2, m2, t2, v0, v1, hv2⟩ := add_c g1 m1 t1 2 2 [some (.d (.int w)), none, none, none, none, none, none, none, none] (by decide) (by decide)
      refine rt_seq (R := fun e => e = [bk g2 m2 t2, some (.d (.int w)), some (.d (.int v)), none, none, none, none, none, none, none]) ⟨_, set_of hv2 rfl, rfl⟩ ?_
      rintro _ rfl
      exact case2 g2 m2 t2 _ v (by omega)
    rw [beq_eq_false_iff_ne.mpr h2] at c2
    refine rt_seq (R := fun e => e = [bk g1 m1 t1, some (.d (.int w)), none, none, none, none, none, none, none, none]) (nx_if_f c2 (nx_end rfl)) ?_
    rintro _ rfl
    obtain ⟨v, g2, m2, t2, v0, v1, hv2⟩ := add_c g1 m1 t1 2 5 [some (.d (.int w)), none, none, none, none, none, none, none, none] (by decide) (by decide)
    obtain ⟨u, g3, m3, t3, u0, u1, hv3⟩ := add_c g2 m2 t2 2 5 [some (.d (.int w)), none, none, none, none, none, none, none, none] (by decide) (by decide)
    obtain ⟨kn, rfl⟩ : ∃ k : Nat, v = k := ⟨v.toNat, by omega⟩
    obtain ⟨mn, rfl⟩ : ∃ k : Nat, u = k := ⟨u.toNat, by omega⟩
    refine rt_seq (R := fun e => e = [bk g3 m3 t3, some (.d (.int w)), none, none, some (.d (.int (kn : Nat))), some (.d (.int (mn : Nat))), none, none, none, none]) ⟨_, ?_, rfl⟩ ?_
    · exact bind_of (take_d (tup_of (cons_of (take_d hv2) (cons_of (take_d hv3) rfl)) (by unfold lim; simp))) rfl
    rintro _ rfl
    obtain ⟨W, g4, m4, t4, q1, q2, q3⟩ := tab_law g3 m3 t3 (some (.d (.int w))) kn mn (by omega) (by omega)
    obtain ⟨W', g5, m5, t5, o6, p1, p2, p3⟩ := fix_law (some (.d (.int w))) rfl kn mn (by omega) (by omega) (rangeD 0 kn) (fun x hx => by
      obtain ⟨i, hi⟩ := List.getElem?_of_mem hx
      obtain ⟨a, b⟩ := range_at hi
      exact ⟨i, b, a⟩) g4 m4 t4 W none q2 q1 trivial
    rw [rows_of (n := kn) q3 rfl (rs := [.d (.int (kn : Nat))]) rfl rfl (by omega) p3]
    exact rt_now (end_law _ _ _ _ _ _ _ W' kn (by omega) (by omega) (fun z => by rw [z] at p2; simp at p2; omega) (by omega) p1)
  obtain ⟨v, e, h1, x, g', m', t', E, rfl, h2, rfl⟩ := fn_rt this
  exact ⟨x, g', m', t', h2, h1⟩
end BH.K01

set_option maxRecDepth 100000
set_option maxHeartbeats 4000000
namespace BH.K01
open PySem PySem.Spec PyProof.Rows L2
theorem strOk_of (s : String) : PyData.strOk (Str.ofString s) = true := by
  rw [Str.ofString_eq_toList]
  unfold PyData.strOk
  simp only [List.all_toArray, List.all_map, List.all_eq_true, Function.comp_apply, decide_eq_true_eq]
  intro c _
  have := c.valid
  have h : c.toNat.isValidChar := this
  rcases h with h | h <;> omega
theorem strOk_app (x y : Str) (hx : PyData.strOk x = true) (hy : PyData.strOk y = true) : PyData.strOk (x ++ y) = true := by
  show (x.cps ++ y.cps).all _ = true
  rw [Array.all_append]
  simp only [Bool.and_eq_true]
  exact ⟨hx, hy⟩
theorem strOk_join : ∀ ts : List Str, (∀ t ∈ ts, PyData.strOk t = true) → PyData.strOk (Str.join ", " ts) = true
  | [], _ => by simp [Str.join, Str.empty, PyData.strOk]
  | [x], h => h x (by simp)
  | x :: y :: r, h => by
    show PyData.strOk (x ++ ", " ++ Str.join ", " (y :: r)) = true
    exact strOk_app _ _ (strOk_app _ _ (h x (by simp)) (strOk_of ", ")) (strOk_join (y :: r) fun t ht => h t (by simp [ht]))
structure Sm (w d : Nat) (x : PyData) : Prop where
  le : x.leavesShort 20 = true
  sh : x.showable = true
  nd : x.hasDict = false
  ok : PyData.strOk x.shown = true
  wt : x.weight ≤ w
  dp : x.depth ≤ d
theorem sm_int {i : Int} (h : i.natAbs < 10000) : Sm 15 0 (.int i) := by
  have hl : i.natAbs ≠ 0 → i.natAbs.log2 < 14 := fun z => (Nat.log2_lt z).mpr (by omega)
  have hl2 : i.natAbs.log2 < 14 := by
    by_cases z : i.natAbs = 0
    · rw [z]; decide
    · exact hl z
  refine ⟨?_, ?_, by simp only [PyData.hasDict], ?_, ?_, by simp only [PyData.depth]; omega⟩
  · simp only [PyData.leavesShort]
    refine decide_eq_true ?_
    have := int_text_length_le10 (a := i) (k := 4) (by decide) (by omega)
    have e : (PyData.int i).shown.length = (toString i).length := by rw [PyData.shown_int, PySem.ofString_length]
    omega
  · simp only [PyData.showable, decide_eq_true_eq]; omega
  · simp only [PyData.shown]; exact strOk_of _
  · simp only [PyData.weight]
    split <;> omega
theorem sm_all {w d : Nat} : ∀ {xs : List PyData}, (∀ x ∈ xs, Sm w d x) → PyData.leavesShortAll 20 xs = true ∧ PyData.showableAll xs = true ∧ PyData.hasDictAll xs = false ∧ (∀ t ∈ PyData.shownAll xs, PyData.strOk t = true) ∧ PyData.weightAll xs ≤ (w + 1) * xs.length ∧ PyData.depthAll xs ≤ d
  | [], _ => by simp [PyData.leavesShortAll, PyData.showableAll, PyData.hasDictAll, PyData.shownAll, PyData.weightAll, PyData.depthAll]
  | x :: xs, h => by
    obtain ⟨h1, h2, h3, h4, h5, h6⟩ := sm_all fun y hy => h y (List.mem_cons_of_mem _ hy)
    have hx := h x List.mem_cons_self
    refine ⟨?_, ?_, ?_, ?_, ?_, ?_⟩
    · simp only [PyData.leavesShortAll, hx.le, h1, Bool.and_self]
    · simp only [PyData.showableAll, hx.sh, h2, Bool.and_self]
    · simp only [PyData.hasDictAll, hx.nd, h3, Bool.or_self]
    · simp only [PyData.shownAll, List.mem_cons]
      rintro t (rfl | ht)
      · exact hx.ok
      · exact h4 t ht
    · simp only [PyData.weightAll, List.length_cons, Nat.mul_add, Nat.mul_one]
      have := hx.wt
      omega
    · simp only [PyData.depthAll]
      have := hx.dp
      omega
theorem sm_tuple {w d n : Nat} {xs : List PyData} (h : ∀ x ∈ xs, Sm w d x) (hn : xs.length ≤ n) : Sm ((w + 1) * n) (d + 1) (.tuple xs) := by
  obtain ⟨h1, h2, h3, h4, h5, h6⟩ := sm_all h
  have h7 : (w + 1) * xs.length ≤ (w + 1) * n := Nat.mul_le_mul_left _ hn
  refine ⟨by simp only [PyData.leavesShort, h1], by simp only [PyData.showable, h2], by simp only [PyData.hasDict, h3], ?_, by simp only [PyData.weight]; omega, by simp only [PyData.depth]; omega⟩
  rw [PyData.shown_tuple]
  exact strOk_app _ _ (strOk_app _ _ (strOk_of "(") (strOk_join _ h4)) (strOk_of _)
theorem sm_list {w d n : Nat} {xs : List PyData} (h : ∀ x ∈ xs, Sm w d x) (hn : xs.length ≤ n) : Sm ((w + 1) * n) (d + 1) (.list xs) := by
  obtain ⟨h1, h2, h3, h4, h5, h6⟩ := sm_all h
  have h7 : (w + 1) * xs.length ≤ (w + 1) * n := Nat.mul_le_mul_left _ hn
  refine ⟨by simp only [PyData.leavesShort, h1], by simp only [PyData.showable, h2], by simp only [PyData.hasDict, h3], ?_, by simp only [PyData.weight]; omega, by simp only [PyData.depth]; omega⟩
  rw [PyData.shown_list]
  exact strOk_app _ _ (strOk_app _ _ (strOk_of "[") (strOk_join _ h4)) (strOk_of "]")
theorem Sm.mono {w d w' d' : Nat} {x : PyData} (h : Sm w d x) (hw : w ≤ w') (hd : d ≤ d') : Sm w' d' x := ⟨h.le, h.sh, h.nd, h.ok, Nat.le_trans h.wt hw, Nat.le_trans h.dp hd⟩
theorem Sm.len {w d : Nat} {x : PyData} (h : Sm w d x) (hw : w ≤ 100000) : x.shown.length ≤ lim := by
  have h1 := PyData.shown_le 20 (by decide) x h.le
  have h2 : 22 * x.weight ≤ 22 * 100000 := Nat.mul_le_mul_left _ (Nat.le_trans h.wt hw)
  unfold lim
  omega
theorem repr_tuple {w d : Nat} {xs : List PyData} (h : Sm w d (.tuple xs)) (hw : w ≤ 100000) (hd : d ≤ 60) : opRepr [.tuple xs] = some (.d (.str (PyData.tuple xs).shown)) := by
  unfold opRepr
  exact if_pos ⟨h.sh, h.nd, Nat.le_trans h.dp hd, h.len hw⟩
theorem repr_list {w d : Nat} {xs : List PyData} (h : Sm w d (.list xs)) (hw : w ≤ 100000) (hd : d ≤ 60) : opRepr [.list xs] = some (.d (.str (PyData.list xs).shown)) := by
  unfold opRepr
  exact if_pos ⟨h.sh, h.nd, Nat.le_trans h.dp hd, h.len hw⟩
theorem ne_str {s : Str} (h : PyData.strOk s = true) : opEq true (.str s) (.str s) = some (.d (.bool false)) := by
  simp [opEq, SeqAt.shaped, PyData.canLay0, PyData.depth, PyData.eqv, h]
theorem comp_of {fi : IF} {b : BF} {vs : List Nat} {tt : TF} {te : CF} {env e1 e2 : SE} {xs acc : List PyData} (h1 : fi env = .ok ((xs, []), e1)) (h2 : cLoop b vs tt te xs e1 [] = .ok (acc, e2)) : fComp fi b vs tt te env = .ok (.tmp (.lst acc), e2) := by
  unfold fComp
  rw [h1]
  simp only [Res.bind, lockAll, h2, unlockAll]
theorem sums_law (W : List (List Int)) (kd : Nat) (hs : List Int) (hW : Rows kd 6 W) (hlen : W.length ≤ 10) (hk : kd ≤ 8) (hh : ∀ a ∈ hs, a.natAbs ≤ 40) :
    ∃ (S : List Int) (outs : List Arg), S.length = W.length ∧ (∀ s ∈ S, s.natAbs < 10000) ∧ F_sums_of [.d (scD W), .d (.tuple (hs.map PyData.int))] = .ok (.d (.tuple (S.map PyData.int))) outs := by
  have hrow : ∀ r ∈ W, fTake (fCall opSum (fPCons (fComp (fZip (fCons (fTake (fName 2)) (fCons (fTake (fName 1)) fNil))) (bTup (bCons (bName 3) (bCons (bName 4) bNil))) [3, 4] fYes (fTake (fBin opMul (fName 3) (fName 4)))) fPNil)) [some (.d (scD W)), some (.d (.tuple (hs.map PyData.int))), some (.d (.tuple (r.map PyData.int))), none, none] = .ok (.int (List.zipWith (fun a b => a * b) r hs).sum, [some (.d (scD W)), some (.d (.tuple (hs.map PyData.int))), some (.d (.tuple (r.map PyData.int))), none, none]) := fun r hr => by
    have hc := comp_map (b := bTup (bCons (bName 3) (bCons (bName 4) bNil))) (vs := [3, 4]) (tt := fYes) (te := fTake (fBin opMul (fName 3) (fName 4))) (env := [some (.d (scD W)), some (.d (.tuple (hs.map PyData.int))), some (.d (.tuple (r.map PyData.int))), none, none]) (zipD (r.map PyData.int) (hs.map PyData.int)) (fun x => match x with
      | .tuple [.int a, .int b] => .int (a * b)
      | x => x) rfl (fun x hx => by
        obtain ⟨a, b, ha, hb, rfl⟩ := zip_mem hx
        have hm : mulG a b := bd_mul (j := 2) (by decide) (by have := (hW r hr).2 a ha; unfold bd; omega) (by have := hh b hb; unfold bd; omega)
        refine ⟨[some (.d (scD W)), some (.d (.tuple (hs.map PyData.int))), some (.d (.tuple (r.map PyData.int))), some (.d (.int a)), some (.d (.int b))], rfl, [some (.d (scD W)), some (.d (.tuple (hs.map PyData.int))), some (.d (.tuple (r.map PyData.int))), some (.d (.int a)), some (.d (.int b))], [some (.d (scD W)), some (.d (.tuple (hs.map PyData.int))), some (.d (.tuple (r.map PyData.int))), some (.d (.int a)), some (.d (.int b))], rfl, ?_, rfl⟩
        exact take_d (bin_of (x := .int a) (y := .int b) rfl rfl rfl rfl (by simp only [opMul, hm, if_true]))) (by
          unfold zipD lim
          rw [List.length_zipWith, List.length_map, (hW r hr).1]; omega)
    rw [zip_ints (fun a b => a * b) _ (fun a b => rfl)] at hc
    have ez : fZip (fCons (fTake (fName 2)) (fCons (fTake (fName 1)) fNil)) [some (.d (scD W)), some (.d (.tuple (hs.map PyData.int))), some (.d (.tuple (r.map PyData.int))), none, none] = .ok ((zipD (r.map PyData.int) (hs.map PyData.int), []), [some (.d (scD W)), some (.d (.tuple (hs.map PyData.int))), some (.d (.tuple (r.map PyData.int))), none, none]) := rfl
    have ef : fComp (fZip (fCons (fTake (fName 2)) (fCons (fTake (fName 1)) fNil))) (bTup (bCons (bName 3) (bCons (bName 4) bNil))) [3, 4] fYes (fTake (fBin opMul (fName 3) (fName 4))) [some (.d (scD W)), some (.d (.tuple (hs.map PyData.int))), some (.d (.tuple (r.map PyData.int))), none, none] = .ok (.tmp (.lst ((List.zipWith (fun a b => a * b) r hs).map PyData.int)), [some (.d (scD W)), some (.d (.tuple (hs.map PyData.int))), some (.d (.tuple (r.map PyData.int))), none, none]) := by
      unfold fComp
      rw [ez]
      simp only [Res.bind, lockAll, hc, unlockAll]
    exact take_d (call1_of ef rfl (by simp only [opSum, intsOf_ints, Option.map]))
  have : Rt (f_sums_of (envOf 5 [.d (scD W), .d (.tuple (hs.map PyData.int))])) fun v _ => v = .d (.tuple ((W.map fun r => (List.zipWith (fun a b => a * b) r hs).sum).map PyData.int)) := by
    unfold f_sums_of
    have e0 : envOf 5 [.d (scD W), .d (.tuple (hs.map PyData.int))] = [some (.d (scD W)), some (.d (.tuple (hs.map PyData.int))), none, none, none] := rfl
    rw [e0]
    have hc := comp_map (b := bName 2) (vs := [2]) (tt := fYes) (te := fTake (fCall opSum (fPCons (fComp (fZip (fCons (fTake (fName 2)) (fCons (fTake (fName 1)) fNil))) (bTup (bCons (bName 3) (bCons (bName 4) bNil))) [3, 4] fYes (fTake (fBin opMul (fName 3) (fName 4)))) fPNil))) (env := [some (.d (scD W)), some (.d (.tuple (hs.map PyData.int))), none, none, none]) (W.map fun r => .tuple (r.map PyData.int)) (fun x => match x with
      | .tuple ds => match intsOf ds with
        | some r => .int (List.zipWith (fun a b => a * b) r hs).sum
        | none => .none
      | x => x) rfl (fun x hx => by
        obtain ⟨r, hr, rfl⟩ := List.mem_map.mp hx
        refine ⟨[some (.d (scD W)), some (.d (.tuple (hs.map PyData.int))), some (.d (.tuple (r.map PyData.int))), none, none], rfl, [some (.d (scD W)), some (.d (.tuple (hs.map PyData.int))), some (.d (.tuple (r.map PyData.int))), none, none], [some (.d (scD W)), some (.d (.tuple (hs.map PyData.int))), some (.d (.tuple (r.map PyData.int))), none, none], rfl, ?_, rfl⟩
        rw [hrow r hr]
        simp only [intsOf_ints]) (by rw [List.length_map]; unfold lim; omega)
    have e2 : (W.map fun r => PyData.tuple (r.map PyData.int)).map (fun x => match x with
      | .tuple ds => match intsOf ds with
        | some r => PyData.int (List.zipWith (fun a b => a * b) r hs).sum
        | none => .none
      | x => x) = (W.map fun r => (List.zipWith (fun a b => a * b) r hs).sum).map PyData.int := by
      rw [List.map_map, List.map_map]
      exact List.map_congr_left fun r _ => by simp only [Function.comp_apply, intsOf_ints]
    rw [e2] at hc
    have es : fSeq (fName 0) [some (.d (scD W)), some (.d (.tuple (hs.map PyData.int))), none, none, none] = .ok ((W.map fun r => .tuple (r.map PyData.int), []), [some (.d (scD W)), some (.d (.tuple (hs.map PyData.int))), none, none, none]) := rfl
    refine rt_now ⟨_, _, ret_of (call1_of (e := [some (.d (scD W)), some (.d (.tuple (hs.map PyData.int))), none, none, none]) (r := .tmp (.lst ((W.map fun r => (List.zipWith (fun a b => a * b) r hs).sum).map PyData.int))) ?_ rfl rfl), rfl⟩
    exact comp_of es hc
  obtain ⟨v, e, h1, rfl⟩ := fn_rt this
  refine ⟨W.map fun r => (List.zipWith (fun a b => a * b) r hs).sum, _, by simp, ?_, h1⟩
  intro s hs'
  obtain ⟨r, hr, rfl⟩ := List.mem_map.mp hs'
  have bound : ∀ (r hs : List Int), (∀ a ∈ r, a.natAbs ≤ 6) → (∀ a ∈ hs, a.natAbs ≤ 40) → (List.zipWith (fun a b => a * b) r hs).sum.natAbs ≤ 240 * r.length := by
    intro r
    induction r with
    | nil => intro hs _ _; simp
    | cons a r ih =>
      intro hs h1 h2
      cases hs with
      | nil => simp
      | cons b hs =>
        have i1 := ih hs (fun x hx => h1 x (by simp [hx])) (fun x hx => h2 x (by simp [hx]))
        have i2 : (a * b).natAbs ≤ 6 * 40 := by rw [Int.natAbs_mul]; exact Nat.mul_le_mul (h1 a (by simp)) (h2 b (by simp))
        simp only [List.zipWith_cons_cons, List.sum_cons, List.length_cons]
        omega
  have := bound r hs (hW r hr).2 hh
  have hl := (hW r hr).1
  have : 240 * r.length ≤ 240 * 8 := Nat.mul_le_mul_left _ (by omega)
  omega
theorem sums_same (as : List Arg) : F_law_sums as = F_sums_of as := rfl
end BH.K01

set_option maxRecDepth 100000
set_option maxHeartbeats 4000000
namespace BH.K01
open PySem PySem.Spec PyProof.Rows L2
def dk (g m t : Int) : Option MV := some (.cell .own (deckC g m t))
theorem ref_call {F : List Arg → FRes} {g m t g1 m1 t1 g2 m2 t2 : Int} {S : Option MV} {E E1 : SE} {fe : CF} {x : PyData} {r : Ret} (he : fe (S :: dk g m t :: E) = .ok (x, S :: dk g1 m1 t1 :: E1)) (hF : F [.bor (deckC g1 m1 t1), .d x] = .ok r [.bor (deckC g2 m2 t2), .d x]) :
    fCallF 2 F (aRef 1 (aDat fe aNil)) (S :: dk g m t :: E) = .ok (r.rv, S :: dk g2 m2 t2 :: E1) := by
  unfold dk at he ⊢
  simp [fCallF, aRef, aDat, aNil, he, Res.bind, refsOf, toArgs, hF, putOuts, putOut]
theorem ref_call1 {F : List Arg → FRes} {g m t g2 m2 t2 : Int} {S : Option MV} {E : SE} {r : Ret} (hF : F [.bor (deckC g m t)] = .ok r [.bor (deckC g2 m2 t2)]) :
    fCallF 1 F (aRef 1 aNil) (S :: dk g m t :: E) = .ok (r.rv, S :: dk g2 m2 t2 :: E) := by
  unfold dk
  simp [fCallF, aRef, aNil, Res.bind, refsOf, toArgs, hF, putOuts, putOut]
theorem call_dd {F : List Arg → FRes} {env : SE} {fa fb : CF} {x y : PyData} {r : Ret} {outs : List Arg} (ha : fa env = .ok (x, env)) (hb : fb env = .ok (y, env)) (hF : F [.d x, .d y] = .ok r outs) : fCallF 2 F (aDat fa (aDat fb aNil)) env = .ok (r.rv, env) := by
  have ea : aDat fa (aDat fb aNil) env = .ok ([.d x, .d y], env) := by simp [aDat, aNil, ha, hb, Res.bind]
  have ep : putOuts [.d x, .d y] outs env = env := by
    cases outs with
    | nil => rfl
    | cons o r => cases r <;> rfl
  unfold fCallF
  rw [ea]
  simp only [Res.bind, refsOf, List.nodup_nil, if_true, toArgs, Option.map, List.length_cons, List.length_nil, hF, ep]
theorem draw_dk (g m t n : Int) (S : Option MV) (E : SE) (fe : CF) (he : fe (S :: dk g m t :: E) = .ok (.int n, S :: dk g m t :: E)) (h0 : 0 < n) (h1 : n < 2 ^ 64) : ∃ v g' m' t', 0 ≤ v ∧ v < n ∧ fCallF 2 F_law_draw (aRef 1 (aDat fe aNil)) (S :: dk g m t :: E) = .ok (.d (.int v), S :: dk g' m' t' :: E) := by
  obtain ⟨v, g', m', t', a1, a2, a3⟩ := draw_law g m t n h0 h1
  exact ⟨v, g', m', t', a1, a2, ref_call he a3⟩
/-- the heap that is drawn -/
theorem heap_law (g m t : Int) (S o2 o3 o5 o6 o7 o8 o9 o10 : Option MV) (kd : Nat) (hk : kd ≤ 100) :
    ∃ (hs : List Int) (g' m' t' : Int), hs.length = kd ∧ (∀ a ∈ hs, 0 ≤ a ∧ a ≤ 40) ∧ fComp (fRng1 (fPCons (fName 4) fPNil)) (bName 11) [11] fYes (fTake (fCallF 2 F_law_pick (aRef 1 (aDat (fTake (fLst (fCons (fTake (fC (.int 0))) (fCons (fTake (fC (.int 1))) (fCons (fTake (fC (.int 40))) (fCons (fTake (fCallF 2 F_law_draw (aRef 1 (aDat (fTake (fC (.int 41))) aNil)))) fNil)))))) aNil))))
      [S, dk g m t, o2, o3, some (.d (.int (kd : Nat))), o5, o6, o7, o8, o9, o10, none, none] = .ok (.tmp (.lst (hs.map PyData.int)), [S, dk g' m' t', o2, o3, some (.d (.int (kd : Nat))), o5, o6, o7, o8, o9, o10, none, none]) := by
  have e1 : fRng1 (fPCons (fName 4) fPNil) [S, dk g m t, o2, o3, some (.d (.int (kd : Nat))), o5, o6, o7, o8, o9, o10, none, none] = .ok ((rangeD 0 kd, []), [S, dk g m t, o2, o3, some (.d (.int (kd : Nat))), o5, o6, o7, o8, o9, o10, none, none]) :=
    rng1_of (rs := [.d (.int (kd : Nat))]) rfl rfl (by omega)
  have hl : (rangeD 0 kd).length = kd := by unfold rangeD; simp
  obtain ⟨acc, e2, h1, hs, g2, m2, t2, h2, h3, h4, h5⟩ := comp_inv (b := bName 11) (vs := [11]) (tt := fYes) (te := fTake (fCallF 2 F_law_pick (aRef 1 (aDat (fTake (fLst (fCons (fTake (fC (.int 0))) (fCons (fTake (fC (.int 1))) (fCons (fTake (fC (.int 40))) (fCons (fTake (fCallF 2 F_law_draw (aRef 1 (aDat (fTake (fC (.int 41))) aNil)))) fNil)))))) aNil))))
    (fun i e acc => ∃ (hs : List Int) (g m t : Int), acc = hs.map PyData.int ∧ hs.length = i ∧ (∀ a ∈ hs, 0 ≤ a ∧ a ≤ 40) ∧ e = [S, dk g m t, o2, o3, some (.d (.int (kd : Nat))), o5, o6, o7, o8, o9, o10, none, none]) (rangeD 0 kd) 0 (fun i x e acc hi ⟨hs, g, m, t, h2, h3, h4, h5⟩ => by
      subst h2 h5
      obtain ⟨hi2, rfl⟩ := range_at hi
      obtain ⟨v, g1, m1, t1, v0, v1, hv⟩ := draw_dk g m t 41 S [o2, o3, some (.d (.int (kd : Nat))), o5, o6, o7, o8, o9, o10, some (.d (.int (i : Nat))), none] (fTake (fC (.int 41))) rfl (by decide) (by decide)
      obtain ⟨g2, m2, t2, x, hx, hp⟩ := pick_law g1 m1 t1 [.int 0, .int 1, .int 40, .int v] (by simp) (by simp)
      have hx' : ∃ z : Int, x = .int z ∧ 0 ≤ z ∧ z ≤ 40 := by
        simp only [List.mem_cons, List.not_mem_nil, or_false] at hx
        rcases hx with rfl | rfl | rfl | rfl
        · exact ⟨0, rfl, by decide, by decide⟩
        · exact ⟨1, rfl, by decide, by decide⟩
        · exact ⟨40, rfl, by decide, by decide⟩
        · exact ⟨v, rfl, v0, by omega⟩
      obtain ⟨z, rfl, z0, z1⟩ := hx'
      have hlist : fTake (fLst (fCons (fTake (fC (.int 0))) (fCons (fTake (fC (.int 1))) (fCons (fTake (fC (.int 40))) (fCons (fTake (fCallF 2 F_law_draw (aRef 1 (aDat (fTake (fC (.int 41))) aNil)))) fNil))))) [S, dk g m t, o2, o3, some (.d (.int (kd : Nat))), o5, o6, o7, o8, o9, o10, some (.d (.int (i : Nat))), none] = .ok (.list [.int 0, .int 1, .int 40, .int v], [S, dk g1 m1 t1, o2, o3, some (.d (.int (kd : Nat))), o5, o6, o7, o8, o9, o10, some (.d (.int (i : Nat))), none]) :=
        take_t (lst_of (cons_of rfl (cons_of rfl (cons_of rfl (cons_of (take_d hv) rfl)))) (by unfold lim; simp))
      refine ⟨rfl, [S, dk g m t, o2, o3, some (.d (.int (kd : Nat))), o5, o6, o7, o8, o9, o10, some (.d (.int (i : Nat))), none], rfl, .inl ⟨[S, dk g m t, o2, o3, some (.d (.int (kd : Nat))), o5, o6, o7, o8, o9, o10, some (.d (.int (i : Nat))), none], .int z, [S, dk g2 m2 t2, o2, o3, some (.d (.int (kd : Nat))), o5, o6, o7, o8, o9, o10, some (.d (.int (i : Nat))), none], rfl, take_d (ref_call hlist hp), by rw [List.length_map, h3]; unfold lim; omega, hs ++ [z], g2, m2, t2, by simp, by simp [h3], ?_, rfl⟩⟩
      intro a ha
      rcases List.mem_append.mp ha with h | h
      · exact h4 a h
      · rw [List.mem_singleton] at h; subst h; exact ⟨z0, z1⟩) _ [] ⟨[], g, m, t, rfl, rfl, by simp, rfl⟩
  subst h2 h5
  exact ⟨hs, g2, m2, t2, by rw [h3, hl]; omega, h4, comp_of e1 h1⟩
theorem heap_ok (kd : Nat) (hs : List Int) (h1 : hs.length = kd) (h2 : ∀ a ∈ hs, 0 ≤ a ∧ a ≤ 40) : heapOk kd (.tuple (hs.map PyData.int)) = true := by
  simp only [heapOk, List.length_map, h1, decide_true, Bool.true_and, List.all_eq_true]
  intro x hx
  obtain ⟨a, ha, rfl⟩ := List.mem_map.mp hx
  have := h2 a ha
  simp [okI, this.1, this.2]
def odds : List PyData := [.int (-1), .int 41, .bool true, .none, .str (Str.ofString "1"), .int (10 ^ 30), .tuple [.tuple [.int 1]], .list [.int 0]]
theorem odd_no (x : PyData) (h : x ∈ odds) : okI 0 40 x = false ∧ ∀ kd, heapOk kd x = false := by
  simp only [odds, List.mem_cons, List.not_mem_nil, or_false] at h
  rcases h with rfl | rfl | rfl | rfl | rfl | rfl | rfl | rfl <;> refine ⟨by decide, fun kd => ?_⟩ <;> simp [heapOk, okI]
theorem heap_no {kd : Nat} {xs : List PyData} {x : PyData} (h : x ∈ xs) (hx : okI 0 40 x = false) : heapOk kd (.tuple xs) = false := by
  simp only [heapOk, Bool.and_eq_false_iff]
  refine .inr ?_
  rw [List.all_eq_false]
  exact ⟨x, h, by rw [hx]; decide⟩
theorem heap_len {kd : Nat} {xs : List PyData} (h : xs.length ≠ kd) : heapOk kd (.tuple xs) = false := by
  simp [heapOk, h]
end BH.K01

set_option maxRecDepth 100000
set_option maxHeartbeats 4000000
namespace BH.K01
open PySem PySem.Spec PyProof.Rows L2
theorem or_of {f t : TF} {env e1 e2 : SE} {b : Bool} (h1 : f env = .ok (false, e1)) (h2 : t e1 = .ok (b, e2)) : fOr f t env = .ok (b, e2) := by
  unfold fOr
  rw [h1]
  simp only [Res.bind]
  rw [if_neg (by decide), h2]
theorem add_tup {a b : List PyData} (h : a.length + b.length ≤ lim) : opAdd (.tuple a) (.tuple b) = some (.d (.tuple (a ++ b))) := if_pos h
theorem ix_tup {l : List Int} {k : Nat} {z : Int} (h : l[k]? = some z) : opIx (.tuple (l.map PyData.int)) (.int k) = some (.d (.int z)) := by
  have hk := (List.getElem?_eq_some_iff.mp h).1
  have hz := (List.getElem?_eq_some_iff.mp h).2
  simp [opIx, atI, ixN, hk, hz]
theorem cut_tail (l : List PyData) : (cutD l (some 1) none).length = l.length - 1 := by
  unfold cutD HT.sIx
  simp
  try omega
theorem sm_heap {hs : List Int} (h : hs.length ≤ 100) (h2 : ∀ a ∈ hs, 0 ≤ a ∧ a ≤ 40) : Sm 1600 1 (.tuple (hs.map PyData.int)) :=
  sm_tuple (w := 15) (d := 0) (n := 100) (fun x hx => by
    obtain ⟨a, ha, rfl⟩ := List.mem_map.mp hx
    have := h2 a ha
    exact sm_int (by omega)) (by rw [List.length_map]; exact h)
theorem sm_scale {W : List (List Int)} {kd : Nat} (hW : Rows kd 6 W) (hk : kd ≤ 8) (hl : W.length ≤ 10) : Sm 1290 2 (scD W) :=
  sm_tuple (w := 128) (d := 1) (n := 10) (fun x hx => by
    obtain ⟨r, hr, rfl⟩ := List.mem_map.mp hx
    exact sm_tuple (w := 15) (d := 0) (n := 8) (fun x hx => by
      obtain ⟨a, ha, rfl⟩ := List.mem_map.mp hx
      have := (hW r hr).2 a ha
      exact sm_int (by omega)) (by rw [List.length_map, (hW r hr).1]; exact hk)) (by rw [List.length_map]; exact hl)
theorem sm_pair {W : List (List Int)} {kd : Nat} {hs : List Int} (hW : Rows kd 6 W) (hk : kd ≤ 8) (hl : W.length ≤ 10) (h : hs.length ≤ 100) (h2 : ∀ a ∈ hs, 0 ≤ a ∧ a ≤ 40) : Sm 3202 3 (.list [scD W, .tuple (hs.map PyData.int)]) :=
  sm_list (w := 1600) (d := 2) (n := 2) (fun x hx => by
    simp only [List.mem_cons, List.not_mem_nil, or_false] at hx
    rcases hx with rfl | rfl
    · exact (sm_scale hW hk hl).mono (by decide) (by decide)
    · exact (sm_heap h h2).mono (by decide) (by decide)) (by simp)
/-- the sums' texts are alike -/
theorem sums_same_text (env : SE) (W : List (List Int)) (kd : Nat) (hs : List Int) (fb : CF) (i : Nat) (e3 : fTake (fName 3) env = .ok (scD W, env)) (e5 : fTake (fName i) env = .ok (.tuple (hs.map PyData.int), env)) (hW : Rows kd 6 W) (hlen : W.length ≤ 10) (hk : kd ≤ 8) (hh : ∀ a ∈ hs, 0 ≤ a ∧ a ≤ 40) :
    fTru (fBin (opEq true) (fCall opRepr (fPCons (fCallF 2 F_sums_of (aDat (fTake (fName 3)) (aDat (fTake (fName i)) aNil))) fPNil)) (fCall opRepr (fPCons (fCallF 2 F_law_sums (aDat (fTake (fName 3)) (aDat (fTake (fName i)) aNil))) fPNil))) env = .ok (false, env) := by
  obtain ⟨Su, outs, s1, s2, s3⟩ := sums_law W kd hs hW hlen hk fun a ha => by have := hh a ha; omega
  have sm : Sm 160 1 (.tuple (Su.map PyData.int)) := sm_tuple (w := 15) (d := 0) (n := 10) (fun x hx => by
    obtain ⟨a, ha, rfl⟩ := List.mem_map.mp hx
    exact sm_int (s2 a ha)) (by rw [List.length_map]; omega)
  have r := repr_tuple sm (by decide) (by decide)
  have c1 := call1_of (op := opRepr) (call_dd e3 e5 s3) rfl r
  have s3' : F_law_sums [.d (scD W), .d (.tuple (hs.map PyData.int))] = .ok (.d (.tuple (Su.map PyData.int))) outs := by rw [sums_same]; exact s3
  have c2 := call1_of (op := opRepr) (call_dd e3 e5 s3') rfl r
  exact tru_of (bin_of c1 c2 rfl rfl (ne_str sm.ok)) rfl rfl
theorem held_same (env : SE) (W : List (List Int)) (kd : Nat) (hs : List Int) (e3 : fTake (fName 3) env = .ok (scD W, env)) (e5 : fTake (fName 5) env = .ok (.tuple (hs.map PyData.int), env)) (e6 : fName 6 env = .ok (.d (.str (PyData.list [scD W, .tuple (hs.map PyData.int)]).shown), env)) (hW : Rows kd 6 W) (hlen : W.length ≤ 10) (hk : kd ≤ 8) (h1 : hs.length ≤ 100) (hh : ∀ a ∈ hs, 0 ≤ a ∧ a ≤ 40) :
    fTru (fBin (opEq true) (fCall opRepr (fPCons (fLst (fCons (fTake (fName 3)) (fCons (fTake (fName 5)) fNil))) fPNil)) (fName 6)) env = .ok (false, env) := by
  have sm := sm_pair hW hk hlen h1 hh
  have r := repr_list sm (by decide) (by decide)
  have c1 := call1_of (op := opRepr) (lst_of (cons_of e3 (cons_of e5 (show fNil env = .ok ([], env) from rfl))) (by unfold lim; simp)) rfl r
  exact tru_of (bin_of c1 e6 rfl rfl (ne_str sm.ok)) rfl rfl
theorem is_heap_at (env : SE) (W0 : List (List Int)) (r0 : List Int) (i : Nat) (x : PyData) (c : Bool) (e3 : fTake (fName 3) env = .ok (scD (r0 :: W0), env)) (ei : fTake (fName i) env = .ok (x, env)) (hk : r0.length ≤ 8) (hx : heapOk r0.length x = c) :
    fTru (fBin (opIs true) (fCallF 2 F_is_heap (aDat (fTake (fName 3)) (aDat (fTake (fName i)) aNil))) (fC (.bool c))) env = .ok (false, env) := by
  obtain ⟨outs, h⟩ := is_heap_law (r0.map PyData.int) (W0.map fun r => .tuple (r.map PyData.int)) x (by rw [List.length_map]; omega)
  rw [List.length_map, hx] at h
  have h' : F_is_heap [.d (scD (r0 :: W0)), .d x] = .ok (.d (.bool c)) outs := h
  have hop : opIs true (.bool c) (.bool c) = some (.d (.bool false)) := by cases c <;> rfl
  exact tru_of (bin_of (call_dd e3 ei h') rfl rfl rfl hop) rfl rfl
theorem bads_law (S o10 o2 o4 : Option MV) (g m t : Int) (W0 : List (List Int)) (r0 : List Int) (x5 x6 x7 x8 : PyData) (B : List PyData) (hk : r0.length ≤ 8) (hB : ∀ x ∈ B, heapOk r0.length x = false) :
    fTru (fBin (opEq true) (fComp (fSeq (fName 9)) (bName 12) [12] (fTru (fBin (opIs true) (fCallF 2 F_is_heap (aDat (fTake (fName 3)) (aDat (fTake (fName 12)) aNil))) (fC (.bool false)))) (fTake (fC (.int 1)))) (fLst fNil))
      [S, dk g m t, o2, some (.d (scD (r0 :: W0))), o4, some (.d x5), some (.d x6), some (.d x7), some (.d x8), some (.cell .own (.lst B)), o10, none, none] = .ok (false, [S, dk g m t, o2, some (.d (scD (r0 :: W0))), o4, some (.d x5), some (.d x6), some (.d x7), some (.d x8), some (.cell .own (.lst B)), o10, none, none]) := by
  obtain ⟨acc, e2, h1, h2, h3⟩ := comp_inv (b := bName 12) (vs := [12]) (tt := fTru (fBin (opIs true) (fCallF 2 F_is_heap (aDat (fTake (fName 3)) (aDat (fTake (fName 12)) aNil))) (fC (.bool false)))) (te := fTake (fC (.int 1)))
    (fun i e acc => acc = [] ∧ e = [S, dk g m t, o2, some (.d (scD (r0 :: W0))), o4, some (.d x5), some (.d x6), some (.d x7), some (.d x8), some (.cell .lock (.lst B)), o10, none, none]) B 0 (fun i x e acc hi ⟨h1, h2⟩ => by
      subst h1 h2
      refine ⟨rfl, [S, dk g m t, o2, some (.d (scD (r0 :: W0))), o4, some (.d x5), some (.d x6), some (.d x7), some (.d x8), some (.cell .lock (.lst B)), o10, none, some (.d x)], rfl, .inr ⟨_, is_heap_at _ W0 r0 12 x false rfl rfl hk (hB x (List.mem_of_getElem? hi)), rfl, rfl⟩⟩) _ [] ⟨rfl, rfl⟩
  subst h2 h3
  have ec : fComp (fSeq (fName 9)) (bName 12) [12] (fTru (fBin (opIs true) (fCallF 2 F_is_heap (aDat (fTake (fName 3)) (aDat (fTake (fName 12)) aNil))) (fC (.bool false)))) (fTake (fC (.int 1))) [S, dk g m t, o2, some (.d (scD (r0 :: W0))), o4, some (.d x5), some (.d x6), some (.d x7), some (.d x8), some (.cell .own (.lst B)), o10, none, none] = .ok (.tmp (.lst []), [S, dk g m t, o2, some (.d (scD (r0 :: W0))), o4, some (.d x5), some (.d x6), some (.d x7), some (.d x8), some (.cell .own (.lst B)), o10, none, none]) := by
    have es : fSeq (fName 9) [S, dk g m t, o2, some (.d (scD (r0 :: W0))), o4, some (.d x5), some (.d x6), some (.d x7), some (.d x8), some (.cell .own (.lst B)), o10, none, none] = .ok ((B, [9]), [S, dk g m t, o2, some (.d (scD (r0 :: W0))), o4, some (.d x5), some (.d x6), some (.d x7), some (.d x8), some (.cell .own (.lst B)), o10, none, none]) := rfl
    have el : lockAll [9] [S, dk g m t, o2, some (.d (scD (r0 :: W0))), o4, some (.d x5), some (.d x6), some (.d x7), some (.d x8), some (.cell .own (.lst B)), o10, none, none] = [S, dk g m t, o2, some (.d (scD (r0 :: W0))), o4, some (.d x5), some (.d x6), some (.d x7), some (.d x8), some (.cell .lock (.lst B)), o10, none, none] := rfl
    unfold fComp
    rw [es]
    simp only [Res.bind]
    rw [el, h1]
    rfl
  exact tru_of (bin_of ec (lst_of rfl (by simp [lim])) rfl rfl (ne_nil [])) rfl rfl
end BH.K01

set_option maxRecDepth 100000
set_option maxHeartbeats 4000000
namespace BH.K01
open PySem PySem.Spec PyProof.Rows L2
theorem ten {xs : List PyData} (h : xs.length ≤ 10) : xs.length ≤ lim := Nat.le_trans h (by unfold lim; decide)
def LawP (_ : Nat) (e : SE) : Prop := ∃ (S : Option MV) (g m t : Int) (o2 o3 o4 o5 o6 o7 o8 o9 o10 : Option MV), okO o2 ∧ okO o3 ∧ okO o4 ∧ okO o5 ∧ okO o6 ∧ okO o7 ∧ okO o8 ∧ okO o9 ∧ okO o10 ∧ e = [S, dk g m t, o2, o3, o4, o5, o6, o7, o8, o9, o10, none, none]
theorem odds_at (env : SE) : fTake (fLst (fCons (fTake (fNeg (fC (.int 1)))) (fCons (fTake (fC (.int 41))) (fCons (fTake (fC (.bool true))) (fCons (fTake (fC .none)) (fCons (fTake (fC (.str (Str.ofString "1")))) (fCons (fTake (fBin opPow (fC (.int 10)) (fC (.int 30)))) (fCons (fTake (fTup (fCons (fTake (fTup (fCons (fTake (fC (.int 1))) fNil))) fNil))) (fCons (fTake (fLst (fCons (fTake (fC (.int 0))) fNil))) fNil))))))))) env = .ok (.list odds, env) := by
  have nil : fNil env = .ok ([], env) := rfl
  have pw : powG 10 30 := ⟨by decide, by decide, by decide⟩
  have hp : opPow (.int 10) (.int 30) = some (.d (.int (10 ^ 30))) := by
    simp only [opPow]
    rw [if_pos pw]
    rfl
  have a6 : fTake (fBin opPow (fC (.int 10)) (fC (.int 30))) env = .ok (.int (10 ^ 30), env) := take_d (bin_of (x := .int 10) (y := .int 30) (ra := .d (.int 10)) (rb := .d (.int 30)) rfl rfl rfl rfl hp)
  have a7 : fTake (fTup (fCons (fTake (fTup (fCons (fTake (fC (.int 1))) fNil))) fNil)) env = .ok (.tuple [.tuple [.int 1]], env) :=
    take_d (tup_of (cons_of (take_d (tup_of (cons_of (show fTake (fC (.int 1)) env = .ok (.int 1, env) from rfl) nil) (ten (by decide)))) nil) (ten (by decide)))
  have a8 : fTake (fLst (fCons (fTake (fC (.int 0))) fNil)) env = .ok (.list [.int 0], env) := take_t (lst_of (cons_of (show fTake (fC (.int 0)) env = .ok (.int 0, env) from rfl) nil) (ten (by decide)))
  refine take_t (lst_of (cons_of (show fTake (fNeg (fC (.int 1))) env = .ok (.int (-1), env) from rfl) (cons_of (show fTake (fC (.int 41)) env = .ok (.int 41, env) from rfl) (cons_of (show fTake (fC (.bool true)) env = .ok (.bool true, env) from rfl) (cons_of (show fTake (fC .none) env = .ok (.none, env) from rfl)
    (cons_of (show fTake (fC (.str (Str.ofString "1"))) env = .ok (.str (Str.ofString "1"), env) from rfl) (cons_of a6 (cons_of a7 (cons_of a8 nil)))))))) (ten (by decide)))
/-- heap[:at] + (x,) + heap[at + 1:] -/
theorem put_at (env : SE) (hs : List Int) (a : Int) (x : PyData) (fx : CF) (e5 : fName 5 env = .ok (.d (.tuple (hs.map PyData.int)), env)) (e7 : fName 7 env = .ok (.d (.int a), env)) (ex : fx env = .ok (x, env)) (hl : hs.length ≤ 100) :
    fBin opAdd (fBin opAdd (fSl (fName 5) fNoPart (fPart (fName 7))) (fTup (fCons fx fNil))) (fSl (fName 5) (fPart (fBin opAdd (fName 7) (fC (.int 1)))) fNoPart) env = .ok (.d (.tuple (((cutD hs none (some a)).map PyData.int ++ [x]) ++ (cutD hs (some (a + 1)) none).map PyData.int)), env) := by
  have c1 : fSl (fName 5) fNoPart (fPart (fName 7)) env = .ok (.d (.tuple ((cutD hs none (some a)).map PyData.int)), env) := by
    unfold fSl fPart
    rw [e5]
    simp only [Res.bind, fNoPart]
    rw [e7]
    simp only [RV.view, opSl, cut_map]
  have c2 : fSl (fName 5) (fPart (fBin opAdd (fName 7) (fC (.int 1)))) fNoPart env = .ok (.d (.tuple ((cutD hs (some (a + 1)) none).map PyData.int)), env) := by
    have e8 : fBin opAdd (fName 7) (fC (.int 1)) env = .ok (.d (.int (a + 1)), env) := bin_of e7 (rb := .d (.int 1)) rfl rfl rfl rfl
    unfold fSl fPart
    rw [e5]
    simp only [Res.bind]
    rw [e8]
    simp only [RV.view, opSl, cut_map, fNoPart]
  have l1 := cut_length hs none (some a)
  have l2 := cut_length hs (some (a + 1)) none
  have t1 : fTup (fCons fx fNil) env = .ok (.d (.tuple [x]), env) := tup_of (cons_of ex (show fNil env = .ok ([], env) from rfl)) (by unfold lim; simp)
  have s1 := bin_of (op := opAdd) c1 t1 rfl rfl (add_tup (by unfold lim; simp; omega))
  exact bin_of s1 c2 rfl rfl (add_tup (by unfold lim; simp; omega))
theorem the_law : ∀ ns : List Int, ns.length ≤ 63 → ∃ outs, F_law [.d (.list (ns.map PyData.int))] = .ok (.d (.bool true)) outs := by
  intro ns _
  have : Rt (f_law (envOf 13 [.d (.list (ns.map PyData.int))])) fun v _ => v = .d (.bool true) := by
    unfold f_law
    have e0 : envOf 13 [.d (.list (ns.map PyData.int))] = [some (.d (.list (ns.map PyData.int))), none, none, none, none, none, none, none, none, none, none, none, none] := rfl
    rw [e0]
    obtain ⟨g, m, outs, hd⟩ := deck_law ns
    have ed : fCallF 1 F_law_deck (aDat (fTake (fName 0)) aNil) [some (.d (.list (ns.map PyData.int))), none, none, none, none, none, none, none, none, none, none, none, none] = .ok (.tmp (deckC g m 0), [some (.d (.list (ns.map PyData.int))), none, none, none, none, none, none, none, none, none, none, none, none]) := by
      have ea : aDat (fTake (fName 0)) aNil [some (.d (.list (ns.map PyData.int))), none, none, none, none, none, none, none, none, none, none, none, none] = .ok ([.d (.list (ns.map PyData.int))], [some (.d (.list (ns.map PyData.int))), none, none, none, none, none, none, none, none, none, none, none, none]) := rfl
      have ep : putOuts [.d (.list (ns.map PyData.int))] outs [some (.d (.list (ns.map PyData.int))), none, none, none, none, none, none, none, none, none, none, none, none] = [some (.d (.list (ns.map PyData.int))), none, none, none, none, none, none, none, none, none, none, none, none] := by cases outs <;> rfl
      unfold fCallF
      rw [ea]
      simp only [Res.bind, refsOf, List.nodup_nil, if_true, toArgs, Option.map, List.length_singleton, hd, ep, Ret.rv]
    refine rt_seq (R := fun e => e = [some (.d (.list (ns.map PyData.int))), dk g m 0, none, none, none, none, none, none, none, none, none, none, none]) ⟨_, set_of ed rfl, rfl⟩ ?_
    rintro _ rfl
    refine rt_seq (R := fun _ => True) ?_ (fun e _ => rt_now ⟨_, _, rfl, rfl⟩)
    refine nx_for (P := LawP) (xs := rangeD 0 8) (rng1_of (n := 8) (rs := [.d (.int 8)]) rfl rfl (by decide)) ⟨_, g, m, 0, none, none, none, none, none, none, none, none, none, trivial, trivial, trivial, trivial, trivial, trivial, trivial, trivial, trivial, rfl⟩ ?_ (fun _ _ => trivial)
    rintro i x _ hi ⟨S, g, m, t, o2, o3, o4, o5, o6, o7, o8, o9, o10, k2, k3, k4, k5, k6, k7, k8, k9, k10, rfl⟩
    obtain ⟨hi2, rfl⟩ := range_at hi
    refine ⟨[S, dk g m t, some (.d (.int (i : Nat))), o3, o4, o5, o6, o7, o8, o9, o10, none, none], by simp [bName, setS_def, setO_ok k2], ?_⟩
    obtain ⟨q2, hq2, kq⟩ : ∃ q2 : Option MV, q2 = some (MV.d (.int (i : Nat))) ∧ okO q2 := ⟨_, rfl, okO_d⟩
    rw [← hq2]
    -- scale
    obtain ⟨x, g1, m1, t1, ⟨W, kd, rfl, w0, wl, kd1, kd8, hW⟩, hs⟩ := scale_law g m t
    obtain ⟨r0, W0, rfl⟩ : ∃ r0 W0, W = r0 :: W0 := by cases W with
      | nil => exact absurd rfl w0
      | cons r l => exact ⟨r, l, rfl⟩
    have hk0 : r0.length = kd := (hW r0 (by simp)).1
    subst hk0
    refine nx_seq (R := fun e => e = [S, dk g1 m1 t1, q2, some (.d (scD (r0 :: W0))), o4, o5, o6, o7, o8, o9, o10, none, none]) ⟨_, set_of (ref_call1 hs) (by simp [Ret.rv, asg, RV.norm, RV.mv, setS_def, setO_ok k3]), rfl⟩ ?_
    rintro _ rfl
    -- kinds
    have hix : opIx (scD (r0 :: W0)) (.int 0) = some (.d (.tuple (r0.map PyData.int))) := by simp [scD, opIx, atI, ixN]
    have hln : opLen [.tuple (r0.map PyData.int)] = some (.d (.int (r0.length : Nat))) := by simp [opLen]
    refine nx_seq (R := fun e => e = [S, dk g1 m1 t1, q2, some (.d (scD (r0 :: W0))), some (.d (.int (r0.length : Nat))), o5, o6, o7, o8, o9, o10, none, none]) ⟨_, set_of (call1_of (e := [S, dk g1 m1 t1, q2, some (.d (scD (r0 :: W0))), o4, o5, o6, o7, o8, o9, o10, none, none]) (bin_of (ra := .d (scD (r0 :: W0))) (rb := .d (.int 0)) rfl rfl rfl rfl hix) rfl hln) (by simp [asg, RV.norm, RV.mv, setS_def, setO_ok k4]), rfl⟩ ?_
    rintro _ rfl
    -- heap
    obtain ⟨hp, g2, m2, t2, hp1, hp2, hp3⟩ := heap_law g1 m1 t1 S q2 (some (.d (scD (r0 :: W0)))) o5 o6 o7 o8 o9 o10 r0.length (by omega)
    refine nx_seq (R := fun e => e = [S, dk g2 m2 t2, q2, some (.d (scD (r0 :: W0))), some (.d (.int (r0.length : Nat))), some (.d (.tuple (hp.map PyData.int))), o6, o7, o8, o9, o10, none, none]) ⟨_, set_of (call1_of hp3 rfl rfl) (by simp [asg, RV.norm, RV.mv, setS_def, setO_ok k5]), rfl⟩ ?_
    rintro _ rfl
    -- held
    have smh := sm_pair hW kd8 wl (by omega : hp.length ≤ 100) hp2
    refine nx_seq (R := fun e => e = [S, dk g2 m2 t2, q2, some (.d (scD (r0 :: W0))), some (.d (.int (r0.length : Nat))), some (.d (.tuple (hp.map PyData.int))), some (.d (.str (PyData.list [scD (r0 :: W0), .tuple (hp.map PyData.int)]).shown)), o7, o8, o9, o10, none, none]) ⟨_, set_of (call1_of (lst_of (xs := [scD (r0 :: W0), .tuple (hp.map PyData.int)]) (e := [S, dk g2 m2 t2, q2, some (.d (scD (r0 :: W0))), some (.d (.int (r0.length : Nat))), some (.d (.tuple (hp.map PyData.int))), o6, o7, o8, o9, o10, none, none]) rfl (ten (by simp))) rfl (repr_list smh (by decide) (by decide))) (by simp [asg, RV.norm, RV.mv, setS_def, setO_ok k6]), rfl⟩ ?_
    rintro _ rfl
    generalize hheld : (PyData.list [scD (r0 :: W0), .tuple (hp.map PyData.int)]).shown = held
    -- the first test
    refine nx_seq (R := fun e => e = [S, dk g2 m2 t2, q2, some (.d (scD (r0 :: W0))), some (.d (.int (r0.length : Nat))), some (.d (.tuple (hp.map PyData.int))), some (.d (.str held)), o7, o8, o9, o10, none, none]) (nx_if_f (or_of (is_heap_at _ W0 r0 5 (.tuple (hp.map PyData.int)) true rfl rfl kd8 (heap_ok _ hp hp1 hp2)) (sums_same_text _ (r0 :: W0) r0.length hp (fTake (fName 5)) 5 rfl rfl hW wl kd8 hp2)) (nx_end rfl)) ?_
    rintro _ rfl
    -- at
    obtain ⟨v, g3, m3, t3, v0, v1, hv⟩ := draw_dk g2 m2 t2 (r0.length : Nat) S [q2, some (.d (scD (r0 :: W0))), some (.d (.int (r0.length : Nat))), some (.d (.tuple (hp.map PyData.int))), some (.d (.str held)), o7, o8, o9, o10, none, none] (fTake (fName 4)) rfl (by omega) (by omega)
    obtain ⟨a, rfl⟩ : ∃ a : Nat, v = a := ⟨v.toNat, by omega⟩
    refine nx_seq (R := fun e => e = [S, dk g3 m3 t3, q2, some (.d (scD (r0 :: W0))), some (.d (.int (r0.length : Nat))), some (.d (.tuple (hp.map PyData.int))), some (.d (.str held)), some (.d (.int (a : Nat))), o8, o9, o10, none, none]) ⟨_, set_of hv (by simp [asg, RV.norm, RV.mv, setS_def, setO_ok k7]), rfl⟩ ?_
    rintro _ rfl
    -- odd
    obtain ⟨g4, m4, t4, odd, ho, hpk⟩ := pick_law g3 m3 t3 odds (by simp [odds]) (by simp [odds])
    obtain ⟨od1, od2⟩ := odd_no odd ho
    refine nx_seq (R := fun e => e = [S, dk g4 m4 t4, q2, some (.d (scD (r0 :: W0))), some (.d (.int (r0.length : Nat))), some (.d (.tuple (hp.map PyData.int))), some (.d (.str held)), some (.d (.int (a : Nat))), some (.d odd), o9, o10, none, none]) ⟨_, set_of (ref_call (odds_at _) hpk) (by simp [Ret.rv, asg, RV.norm, RV.mv, setS_def, setO_ok k8]), rfl⟩ ?_
    rintro _ rfl
    -- bad
    generalize hE : [S, dk g4 m4 t4, q2, some (MV.d (scD (r0 :: W0))), some (.d (.int (r0.length : Nat))), some (.d (.tuple (hp.map PyData.int))), some (.d (.str held)), some (.d (.int (a : Nat))), some (.d odd), o9, o10, none, none] = E
    have n5 : fName 5 E = .ok (.d (.tuple (hp.map PyData.int)), E) := by rw [← hE]; rfl
    have n7 : fName 7 E = .ok (.d (.int (a : Nat)), E) := by rw [← hE]; rfl
    have n8 : fName 8 E = .ok (.d odd, E) := by rw [← hE]; rfl
    have nil : fNil E = .ok ([], E) := rfl
    have b1 := put_at E hp (a : Nat) odd (fTake (fName 8)) n5 n7 (take_d n8) (by omega)
    have b2 : fBin opAdd (fName 5) (fTup (fCons (fTake (fC (.int 0))) fNil)) E = .ok (.d (.tuple (hp.map PyData.int ++ [.int 0])), E) :=
      bin_of n5 (tup_of (cons_of (show fTake (fC (.int 0)) E = .ok (.int 0, E) from rfl) nil) (ten (by simp))) rfl rfl (add_tup (by unfold lim; simp; omega))
    have b3 : fSl (fName 5) (fPart (fC (.int 1))) fNoPart E = .ok (.d (.tuple (cutD (hp.map PyData.int) (some 1) none)), E) := by
      unfold fSl fPart
      rw [n5]
      rfl
    have b4 : fCall opList (fPCons (fName 5) fPNil) E = .ok (.tmp (.lst (hp.map PyData.int)), E) := call1_of n5 rfl rfl
    have b6 : fTake fDic0 E = .ok (.dict [], E) := rfl
    have b7 : fTup (fCons (fTake (fName 5)) fNil) E = .ok (.d (.tuple [.tuple (hp.map PyData.int)]), E) := tup_of (cons_of (take_d n5) nil) (ten (by simp))
    have bl := lst_of (cons_of (take_d b1) (cons_of (take_d b2) (cons_of (take_d b3) (cons_of (take_t b4) (cons_of (take_d n8) (cons_of b6 (cons_of (take_d b7) nil))))))) (ten (by simp))
    rw [← hE] at bl
    generalize hB : [PyData.tuple (((cutD hp none (some (a : Int))).map PyData.int ++ [odd]) ++ (cutD hp (some ((a : Int) + 1)) none).map PyData.int), .tuple (hp.map PyData.int ++ [.int 0]), .tuple (cutD (hp.map PyData.int) (some 1) none), .list (hp.map PyData.int), odd, .dict [], .tuple [.tuple (hp.map PyData.int)]] = B at bl
    rw [← hE]
    refine nx_seq (R := fun e => e = [S, dk g4 m4 t4, q2, some (.d (scD (r0 :: W0))), some (.d (.int (r0.length : Nat))), some (.d (.tuple (hp.map PyData.int))), some (.d (.str held)), some (.d (.int (a : Nat))), some (.d odd), some (.cell .own (.lst B)), o10, none, none]) ⟨_, set_of bl (by simp [asg, RV.norm, RV.mv, setS_def, setO_ok k9]), rfl⟩ ?_
    rintro _ rfl
    have hBad : ∀ x ∈ B, heapOk r0.length x = false := by
      rw [← hB]
      intro x hx
      simp only [List.mem_cons, List.not_mem_nil, or_false] at hx
      rcases hx with rfl | rfl | rfl | rfl | rfl | rfl | rfl
      · exact heap_no (x := odd) (by simp) od1
      · exact heap_len (by simp [hp1])
      · exact heap_len (by rw [cut_tail, List.length_map, hp1]; omega)
      · rfl
      · exact od2 _
      · rfl
      · exact heap_no (x := .tuple (hp.map PyData.int)) (by simp) rfl
    refine nx_seq (R := fun e => e = [S, dk g4 m4 t4, q2, some (.d (scD (r0 :: W0))), some (.d (.int (r0.length : Nat))), some (.d (.tuple (hp.map PyData.int))), some (.d (.str held)), some (.d (.int (a : Nat))), some (.d odd), some (.cell .own (.lst B)), o10, none, none]) (nx_if_f (bads_law _ _ _ _ _ _ _ W0 r0 _ _ _ _ B kd8 hBad) (nx_end rfl)) ?_
    rintro _ rfl
    -- more
    have ha : a < hp.length := by omega
    have hz : hp[a]? = some hp[a] := List.getElem?_eq_getElem ha
    have hzb := hp2 _ (List.getElem_mem ha)
    generalize hp[a] = z at hz hzb
    generalize hE : [S, dk g4 m4 t4, q2, some (MV.d (scD (r0 :: W0))), some (.d (.int (r0.length : Nat))), some (.d (.tuple (hp.map PyData.int))), some (.d (.str held)), some (.d (.int (a : Nat))), some (.d odd), some (.cell .own (.lst B)), o10, none, none] = E
    have n5 : fName 5 E = .ok (.d (.tuple (hp.map PyData.int)), E) := by rw [← hE]; rfl
    have n7 : fName 7 E = .ok (.d (.int (a : Nat)), E) := by rw [← hE]; rfl
    have ex : fTake (fBin opSub (fC (.int 40)) (fBin opIx (fName 5) (fName 7))) E = .ok (.int (40 - z), E) :=
      take_d (bin_of (ra := .d (.int 40)) rfl (bin_of n5 n7 rfl rfl (ix_tup hz)) rfl rfl rfl)
    have bm := put_at E hp (a : Nat) (.int (40 - z)) _ n5 n7 ex (by omega)
    have em : (((cutD hp none (some (a : Int))).map PyData.int ++ [.int (40 - z)]) ++ (cutD hp (some ((a : Int) + 1)) none).map PyData.int) = (cutD hp none (some (a : Int)) ++ [40 - z] ++ cutD hp (some ((a : Int) + 1)) none).map PyData.int := by simp
    rw [em] at bm
    have hm2 : ∀ b ∈ cutD hp none (some (a : Int)) ++ [40 - z] ++ cutD hp (some ((a : Int) + 1)) none, 0 ≤ b ∧ b ≤ 40 := by
      intro b hb
      simp only [List.mem_append, List.mem_singleton] at hb
      rcases hb with (hb | rfl) | hb
      · exact hp2 b (cut_mem hb)
      · omega
      · exact hp2 b (cut_mem hb)
    generalize cutD hp none (some (a : Int)) ++ [40 - z] ++ cutD hp (some ((a : Int) + 1)) none = more at bm hm2
    rw [← hE] at bm
    rw [← hE]
    refine nx_seq (R := fun e => e = [S, dk g4 m4 t4, q2, some (.d (scD (r0 :: W0))), some (.d (.int (r0.length : Nat))), some (.d (.tuple (hp.map PyData.int))), some (.d (.str held)), some (.d (.int (a : Nat))), some (.d odd), some (.cell .own (.lst B)), some (.d (.tuple (more.map PyData.int))), none, none]) ⟨_, set_of bm (by simp [asg, RV.norm, RV.mv, setS_def, setO_ok k10]), rfl⟩ ?_
    rintro _ rfl
    refine nx_seq (R := LawP (i + 1)) (nx_if_f (or_of (sums_same_text _ (r0 :: W0) r0.length more (fTake (fName 10)) 10 rfl rfl hW wl kd8 hm2) (held_same _ (r0 :: W0) r0.length hp rfl rfl (by rw [hheld]; rfl) hW wl kd8 (by omega) hp2)) (nx_end ⟨S, g4, m4, t4, q2, _, _, _, _, _, _, _, _, kq, okO_d, okO_d, okO_d, okO_d, okO_d, okO_d, okO_own, okO_d, rfl⟩)) (fun e p => nx_end p)
  obtain ⟨v, e, h1, rfl⟩ := fn_rt this
  exact ⟨_, h1⟩
end BH.K01

set_option maxRecDepth 100000
set_option maxHeartbeats 4000000
namespace BH.K01
open PySem PySem.Spec PyProof.Rows L2
def top (i : Nat) : Stmt := PySem.Challenge.pw_barterheaps_k01_heaps_and_sums.main.body.getD i (.Pass ⟨0, 0, 0, 0⟩)
abbrev s_law_deck : Stmt := top 7
abbrev s_law_draw : Stmt := top 8
abbrev s_law_rank : Stmt := top 10
abbrev s_law_cut : Stmt := top 11
abbrev s_law_scale : Stmt := top 12
abbrev s_law_pick : Stmt := top 9
abbrev s_is_tuple : Stmt := top 3
abbrev s_is_integer : Stmt := top 2
abbrev s_is_heap : Stmt := top 4
abbrev s_sums_of : Stmt := top 5
abbrev s_law_sums : Stmt := top 13
abbrev s_law : Stmt := top 14
structure Txt (K : PySem.W.Frag) (mg : Str → Option Value) where
  c_MAX_COUNT : ∃ t, mg "MAX_COUNT" = some (.int 40 t)
  z_len : mg "len" = none
  z_abs : mg "abs" = none
  z_int : mg "int" = none
  z_list : mg "list" = none
  z_range : mg "range" = none
  z_zip : mg "zip" = none
  z_tuple : mg "tuple" = none
  z_sum : mg "sum" = none
  z_isinstance : mg "isinstance" = none
  z_bool : mg "bool" = none
  z_all : mg "all" = none
  z_repr : mg "repr" = none
  a_law_deck : Addr
  d_law_deck : FuncData
  g_law_deck : mg "_law_deck" = some (.ref a_law_deck)
  F_law_deck : Fun K "_law_deck" "_law_deck" s_law_deck a_law_deck d_law_deck
  b_law_deck : Binds K d_law_deck ["script"] []
  a_law_draw : Addr
  d_law_draw : FuncData
  g_law_draw : mg "_law_draw" = some (.ref a_law_draw)
  F_law_draw : Fun K "_law_draw" "_law_draw" s_law_draw a_law_draw d_law_draw
  b_law_draw : Binds K d_law_draw ["deck", "many"] []
  a_law_rank : Addr
  d_law_rank : FuncData
  g_law_rank : mg "_law_rank" = some (.ref a_law_rank)
  F_law_rank : Fun K "_law_rank" "_law_rank" s_law_rank a_law_rank d_law_rank
  b_law_rank : Binds K d_law_rank ["rows"] []
  a_law_cut : Addr
  d_law_cut : FuncData
  g_law_cut : mg "_law_cut" = some (.ref a_law_cut)
  F_law_cut : Fun K "_law_cut" "_law_cut" s_law_cut a_law_cut d_law_cut
  b_law_cut : Binds K d_law_cut ["rows"] []
  a_law_scale : Addr
  d_law_scale : FuncData
  g_law_scale : mg "_law_scale" = some (.ref a_law_scale)
  F_law_scale : Fun K "_law_scale" "_law_scale" s_law_scale a_law_scale d_law_scale
  b_law_scale : Binds K d_law_scale ["deck"] []
  a_law_pick : Addr
  d_law_pick : FuncData
  g_law_pick : mg "_law_pick" = some (.ref a_law_pick)
  F_law_pick : Fun K "_law_pick" "_law_pick" s_law_pick a_law_pick d_law_pick
  b_law_pick : Binds K d_law_pick ["deck", "items"] []
  a_is_tuple : Addr
  d_is_tuple : FuncData
  g_is_tuple : mg "is_tuple" = some (.ref a_is_tuple)
  F_is_tuple : Fun K "is_tuple" "is_tuple" s_is_tuple a_is_tuple d_is_tuple
  b_is_tuple : Binds K d_is_tuple ["value", "least", "most"] []
  a_is_integer : Addr
  d_is_integer : FuncData
  g_is_integer : mg "is_integer" = some (.ref a_is_integer)
  F_is_integer : Fun K "is_integer" "is_integer" s_is_integer a_is_integer d_is_integer
  b_is_integer : Binds K d_is_integer ["value", "low", "high"] []
  a_is_heap : Addr
  d_is_heap : FuncData
  g_is_heap : mg "is_heap" = some (.ref a_is_heap)
  F_is_heap : Fun K "is_heap" "is_heap" s_is_heap a_is_heap d_is_heap
  b_is_heap : Binds K d_is_heap ["scale", "value"] []
  a_sums_of : Addr
  d_sums_of : FuncData
  g_sums_of : mg "sums_of" = some (.ref a_sums_of)
  F_sums_of : Fun K "sums_of" "sums_of" s_sums_of a_sums_of d_sums_of
  b_sums_of : Binds K d_sums_of ["scale", "heap"] []
  a_law_sums : Addr
  d_law_sums : FuncData
  g_law_sums : mg "_law_sums" = some (.ref a_law_sums)
  F_law_sums : Fun K "_law_sums" "_law_sums" s_law_sums a_law_sums d_law_sums
  b_law_sums : Binds K d_law_sums ["scale", "heap"] []
  a_law : Addr
  d_law : FuncData
  g_law : mg "law" = some (.ref a_law)
  F_law : Fun K "law" "law" s_law a_law d_law
  b_law : Binds K d_law ["script"] []
section
variable {P : Program} {w : World} {K : PySem.W.Frag} {mg : Str → Option Value} {base : Heap}
theorem sc_law_deck : FnScope ["script", "great", "mixed", "cell", "more"] ["script"] (defScope s_law_deck) := ⟨rfl, rfl, rfl, by decide +kernel, rfl, by decide +kernel, by decide +kernel⟩
theorem G_law_deck (T : Txt K mg) : FnG P w K mg base 1 T.a_law_deck T.d_law_deck ["script"] (spF mg K 1 F_law_deck) := by
  refine fn_data T.F_law_deck sc_law_deck fun cdv A outer s H E hr hg => ?_
  exact (fss_cons (fs_par (i := 1) (j := 2) rfl sc_law_deck.nd rfl rfl (by decide) rfl rfl (fps_cons fe_int (fps_cons (fe_bin od_add fe_int (fe_bin od_mul fe_int (fe_callB cd_len (by rfl) T.z_len rfl (fps_cons (fe_name (pv 0)) fps_nil)))) fps_nil)) rfl)
    (fss_cons (fs_for rfl (fi_seq (fe_slice (fe_name (pv 0)) fo_none (fo_some fe_int))) (fg_name (i := 3) sc_law_deck.nd rfl (by first | exact Or.inl rfl | exact Or.inr rfl)) (fss_cons (fs_set (i := 4) sc_law_deck.nd rfl (by first | exact Or.inl rfl | exact Or.inr rfl) (fe_bin od_add (fe_bin od_add (fe_bin od_mul fe_int (fe_callB cd_abs (by rfl) T.z_abs rfl (fps_cons (fe_name (pv 3)) fps_nil))) (fe_callTy cd_int (by rfl) T.z_int rfl (fps_cons (fe_cmp od_lt (fe_name (pv 3)) fe_int) fps_nil))) fe_int))
    (fss_cons (fs_set (i := 2) sc_law_deck.nd rfl (by first | exact Or.inl rfl | exact Or.inr rfl) (fe_bin od_mod (fe_callTy cd_int (by rfl) T.z_int rfl (fps_cons (fe_bin od_add (fe_bin od_mul (fe_name (pv 2)) fe_int) (fe_name (pv 4))) fps_nil)) fe_int))
    (fss_cons (fs_if (ft_cmp od_ge (fe_callB cd_abs (by rfl) T.z_abs rfl (fps_cons (fe_name (pv 3)) fps_nil)) (fe_bin od_pow fe_int fe_int)) (fss_cons (fs_set (i := 1) sc_law_deck.nd rfl (by first | exact Or.inl rfl | exact Or.inr rfl) (fe_bin od_add (fe_bin od_mul (fe_name (pv 1)) fe_int) (fe_callB cd_abs (by rfl) T.z_abs rfl (fps_cons (fe_name (pv 3)) fps_nil))))
    fss_nil) fss_nil)
    fss_nil))))
    (fss_cons (fs_ret (fe_lst (fcs_cons (FE.take (fe_name (pv 1))) (fcs_cons (FE.take (fe_name (pv 2))) (fcs_cons (FE.take fe_int) fcs_nil)))))
    fss_nil)))
theorem sc_law_draw : FnScope ["deck", "many", "digit", "mixed"] ["deck", "many"] (defScope s_law_draw) := ⟨rfl, rfl, rfl, by decide +kernel, rfl, by decide +kernel, by decide +kernel⟩
theorem G_law_draw (T : Txt K mg) : FnG P w K mg base 1 T.a_law_draw T.d_law_draw ["deck", "many"] (spF mg K 2 F_law_draw) := by
  refine fn_data T.F_law_draw sc_law_draw fun cdv A outer s H E hr hg => ?_
  exact (fss_cons (fs_if (ft_cmp od_gt (fe_ix (fe_name (pv 0)) fe_int) fe_int) (fss_cons (fs_set (i := 2) sc_law_draw.nd rfl (by first | exact Or.inl rfl | exact Or.inr rfl) (fe_bin od_mod (fe_callTy cd_int (by rfl) T.z_int rfl (fps_cons (fe_ix (fe_name (pv 0)) fe_int) fps_nil)) (fe_name (pv 1))))
    (fss_cons (fs_setIx (FE.take (fe_bin od_div (fe_ix (fe_name (pv 0)) fe_int) (fe_name (pv 1)))) (fe_name (pv 0)) (FE.take fe_int))
    (fss_cons (fs_ret (fe_name (pv 2)))
    fss_nil))) fss_nil)
    (fss_cons (fs_setIx (FE.take (fe_bin od_add (fe_ix (fe_name (pv 0)) fe_int) fe_int)) (fe_name (pv 0)) (FE.take fe_int))
    (fss_cons (fs_set (i := 3) sc_law_draw.nd rfl (by first | exact Or.inl rfl | exact Or.inr rfl) (fe_bin od_mod (fe_callTy cd_int (by rfl) T.z_int rfl (fps_cons (fe_bin od_add (fe_ix (fe_name (pv 0)) fe_int) (fe_bin od_mul fe_int (fe_ix (fe_name (pv 0)) fe_int))) fps_nil)) fe_int))
    (fss_cons (fs_set (i := 3) sc_law_draw.nd rfl (by first | exact Or.inl rfl | exact Or.inr rfl) (fe_bin od_mod (fe_callTy cd_int (by rfl) T.z_int rfl (fps_cons (fe_bin od_mul (fe_name (pv 3)) (fe_bin od_add (fe_bin od_mod (fe_name (pv 3)) fe_int) fe_int)) fps_nil)) fe_int))
    (fss_cons (fs_ret (fe_bin od_mod (fe_bin od_div (fe_bin od_mod (fe_callTy cd_int (by rfl) T.z_int rfl (fps_cons (fe_bin od_mul (fe_name (pv 3)) (fe_name (pv 3))) fps_nil)) fe_int) fe_int) (fe_name (pv 1))))
    fss_nil)))))
theorem sc_law_rank : FnScope ["rows", "left", "found", "kind", "leads", "lead", "others", "row", "at", "a", "b"] ["rows"] (defScope s_law_rank) := ⟨rfl, rfl, rfl, by decide +kernel, rfl, by decide +kernel, by decide +kernel⟩
theorem G_law_rank (T : Txt K mg) : FnG P w K mg base 1 T.a_law_rank T.d_law_rank ["rows"] (spF mg K 1 F_law_rank) := by
  refine fn_data T.F_law_rank sc_law_rank fun cdv A outer s H E hr hg => ?_
  exact (fss_cons (fs_bind (FE.take (fe_tup (fcs_cons (FE.take (fe_comp (own := [("row", 7)]) rfl sc_law_rank.nd (fi_seq (fe_name (pv 0))) (blkOk_by (by kernel_rfl)) (fun _ _ _ _ _ => (fg_name (i := 7) sc_law_rank.nd rfl (by first | exact Or.inl rfl | exact Or.inr rfl))) (fun _ _ _ _ _ => fts_nil) (fun _ _ _ _ _ => (FE.take (fe_callTy cd_list (by rfl) T.z_list rfl (fps_cons (fe_name (pv 7)) fps_nil)))))) (fcs_cons (FE.take fe_int) fcs_nil)))) (fg_tup rfl (fgs_cons (fg_name (i := 1) sc_law_rank.nd rfl (by first | exact Or.inl rfl | exact Or.inr rfl)) (fgs_cons (fg_name (i := 2) sc_law_rank.nd rfl (by first | exact Or.inl rfl | exact Or.inr rfl)) fgs_nil)) 2 (bCons_len (bCons_len bNil_len))))
    (fss_cons (fs_for rfl (fi_range1 (by rfl) T.z_range (fps_cons (fe_callB cd_len (by rfl) T.z_len rfl (fps_cons (fe_ix (fe_name (pv 0)) fe_int) fps_nil)) fps_nil)) (fg_name (i := 3) sc_law_rank.nd rfl (by first | exact Or.inl rfl | exact Or.inr rfl)) (fss_cons (fs_setLc (i := 4) (hc := rfl) (hN := sc_law_rank.nd) (hi' := rfl) (hy := rfl) (hsw := sw_true rfl rfl rfl rfl) (own := [("at", 8)]) (fi_range1 (by rfl) T.z_range (fps_cons (fe_callB cd_len (by rfl) T.z_len rfl (fps_cons (fe_name (pv 1)) fps_nil)) fps_nil)) (blkOk_by (by kernel_rfl)) (fun _ _ _ _ _ => (fg_name (i := 8) sc_law_rank.nd rfl (by first | exact Or.inl rfl | exact Or.inr rfl))) (fun _ _ _ _ _ => (fts_one (ft_cmp (od_ne (hu65 hr)) (fe_ix (fe_ix (fe_name (pv 1)) (fe_name (pv 8))) (fe_name (pv 3))) fe_int))) (fun _ _ _ _ _ => (FE.take (fe_name (pv 8)))))
    (fss_cons (fs_if (ft_cmp (od_ne (hu65 hr)) (fe_name (pv 4)) (fe_lst fcs_nil)) (fss_cons (fs_bind (FE.take (fe_tup (fcs_cons (FE.take (fe_ix (fe_name (pv 1)) (fe_ix (fe_name (pv 4)) fe_int))) (fcs_cons (FE.take (fe_bin od_add (fe_name (pv 2)) fe_int)) fcs_nil)))) (fg_tup rfl (fgs_cons (fg_name (i := 5) sc_law_rank.nd rfl (by first | exact Or.inl rfl | exact Or.inr rfl)) (fgs_cons (fg_name (i := 2) sc_law_rank.nd rfl (by first | exact Or.inl rfl | exact Or.inr rfl)) fgs_nil)) 2 (bCons_len (bCons_len bNil_len))))
    (fss_cons (fs_set (i := 6) sc_law_rank.nd rfl (by first | exact Or.inl rfl | exact Or.inr rfl) (fe_bin od_add (fe_slice (fe_name (pv 1)) fo_none (fo_some (fe_ix (fe_name (pv 4)) fe_int))) (fe_slice (fe_name (pv 1)) (fo_some (fe_bin od_add (fe_ix (fe_name (pv 4)) fe_int) fe_int)) fo_none)))
    (fss_cons (fs_set (i := 1) sc_law_rank.nd rfl (by first | exact Or.inl rfl | exact Or.inr rfl) (fe_comp (own := [("row", 7)]) rfl sc_law_rank.nd (fi_seq (fe_name (pv 6))) (blkOk_by (by kernel_rfl)) (fun _ _ _ _ _ => (fg_name (i := 7) sc_law_rank.nd rfl (by first | exact Or.inl rfl | exact Or.inr rfl))) (fun _ _ _ _ _ => fts_nil) (fun _ _ _ _ _ => (FE.take (fe_comp (own := [("a", 9), ("b", 10)]) rfl sc_law_rank.nd (fi_zip (by rfl) T.z_zip (fcs_cons (FE.take (fe_name (pv 7))) (fcs_cons (FE.take (fe_name (pv 5))) fcs_nil))) (blkOk_by (by kernel_rfl)) (fun _ _ _ _ _ => (fg_tup rfl (fgs_cons (fg_name (i := 9) sc_law_rank.nd rfl (by first | exact Or.inl rfl | exact Or.inr rfl)) (fgs_cons (fg_name (i := 10) sc_law_rank.nd rfl (by first | exact Or.inl rfl | exact Or.inr rfl)) fgs_nil)) 2 (bCons_len (bCons_len bNil_len)))) (fun _ _ _ _ _ => fts_nil) (fun _ _ _ _ _ => (FE.take (fe_bin od_sub (fe_bin od_mul (fe_name (pv 9)) (fe_ix (fe_name (pv 5)) (fe_name (pv 3)))) (fe_bin od_mul (fe_name (pv 10)) (fe_ix (fe_name (pv 7)) (fe_name (pv 3))))))))))))
    fss_nil))) fss_nil)
    fss_nil)))
    (fss_cons (fs_ret (fe_name (pv 2)))
    fss_nil)))
theorem sc_law_cut : FnScope ["rows", "row"] ["rows"] (defScope s_law_cut) := ⟨rfl, rfl, rfl, by decide +kernel, rfl, by decide +kernel, by decide +kernel⟩
theorem G_law_cut (T : Txt K mg) : FnG P w K mg base 2 T.a_law_cut T.d_law_cut ["rows"] (spF mg K 1 F_law_cut) := by
  refine fn_data T.F_law_cut sc_law_cut fun cdv A outer s H E hr hg => ?_
  exact (fss_cons (fs_while fuel_law_cut1 (ft_cmp od_gt (fe_bin od_sub (fe_callB cd_len (by rfl) T.z_len rfl (fps_cons (fe_ix (fe_name (pv 0)) fe_int) fps_nil)) (fe_call (G_law_rank (P := P) (w := w) (base := base) T) (hr.mono (by decide)) hg (by rfl) T.g_law_rank T.F_law_rank.kp T.b_law_rank (fas_dat (FE.take (fe_name (pv 0))) fas_nil))) fe_int) (fss_cons (fs_setLc (i := 0) (hc := rfl) (hN := sc_law_cut.nd) (hi' := rfl) (hy := rfl) (hsw := sw_true rfl rfl rfl rfl) (own := [("row", 1)]) (fi_seq (fe_name (pv 0))) (blkOk_by (by kernel_rfl)) (fun _ _ _ _ _ => (fg_name (i := 1) sc_law_cut.nd rfl (by first | exact Or.inl rfl | exact Or.inr rfl))) (fun _ _ _ _ _ => fts_nil) (fun _ _ _ _ _ => (FE.take (fe_slice (fe_name (pv 1)) fo_none (fo_some (fe_neg fe_int))))))
    fss_nil))
    (fss_cons (fs_ret (fe_name (pv 0)))
    fss_nil))
theorem sc_law_scale : FnScope ["deck", "way", "wide", "rows", "kinds", "many", "kind", "row", "cell", "column"] ["deck"] (defScope s_law_scale) := ⟨rfl, rfl, rfl, by decide +kernel, rfl, by decide +kernel, by decide +kernel⟩
theorem G_law_scale (T : Txt K mg) : FnG P w K mg base 3 T.a_law_scale T.d_law_scale ["deck"] (spF mg K 1 F_law_scale) := by
  refine fn_data T.F_law_scale sc_law_scale fun cdv A outer s H E hr hg => ?_
  exact (fss_cons (fs_set (i := 1) sc_law_scale.nd rfl (by first | exact Or.inl rfl | exact Or.inr rfl) (fe_call (G_law_draw (P := P) (w := w) (base := base) T) (hr.mono (by decide)) hg (by rfl) T.g_law_draw T.F_law_draw.kp T.b_law_draw (fas_ref (pv 0) (fas_dat (FE.take fe_int) fas_nil))))
    (fss_cons (fs_if (ft_cmp od_lt (fe_name (pv 1)) fe_int) (fss_cons (fs_ret (fe_tup (fcs_cons (FE.take (fe_callTy cd_tuple (by rfl) T.z_tuple rfl (fps_cons (fe_comp (own := [("kind", 6)]) rfl sc_law_scale.nd (fi_range1 (by rfl) T.z_range (fps_cons (fe_bin od_add fe_int (fe_call (G_law_draw (P := P) (w := w) (base := base) T) (hr.mono (by decide)) hg (by rfl) T.g_law_draw T.F_law_draw.kp T.b_law_draw (fas_ref (pv 0) (fas_dat (FE.take fe_int) fas_nil)))) fps_nil)) (blkOk_by (by kernel_rfl)) (fun _ _ _ _ _ => (fg_name (i := 6) sc_law_scale.nd rfl (by first | exact Or.inl rfl | exact Or.inr rfl))) (fun _ _ _ _ _ => fts_nil) (fun _ _ _ _ _ => (FE.take (fe_bin od_add fe_int (fe_call (G_law_draw (P := P) (w := w) (base := base) T) (hr.mono (by decide)) hg (by rfl) T.g_law_draw T.F_law_draw.kp T.b_law_draw (fas_ref (pv 0) (fas_dat (FE.take fe_int) fas_nil))))))) fps_nil))) fcs_nil)))
    fss_nil) fss_nil)
    (fss_cons (fs_if (ft_cmp (od_eq (hu65 hr)) (fe_name (pv 1)) fe_int) (fss_cons (fs_set (i := 2) sc_law_scale.nd rfl (by first | exact Or.inl rfl | exact Or.inr rfl) (fe_bin od_add fe_int (fe_call (G_law_draw (P := P) (w := w) (base := base) T) (hr.mono (by decide)) hg (by rfl) T.g_law_draw T.F_law_draw.kp T.b_law_draw (fas_ref (pv 0) (fas_dat (FE.take fe_int) fas_nil)))))
    (fss_cons (fs_setLc (i := 3) (hc := rfl) (hN := sc_law_scale.nd) (hi' := rfl) (hy := rfl) (hsw := sw_true rfl rfl rfl rfl) (own := [("row", 7)]) (fi_range1 (by rfl) T.z_range (fps_cons fe_int fps_nil)) (blkOk_by (by kernel_rfl)) (fun _ _ _ _ _ => (fg_name (i := 7) sc_law_scale.nd rfl (by first | exact Or.inl rfl | exact Or.inr rfl))) (fun _ _ _ _ _ => fts_nil) (fun _ _ _ _ _ => (FE.take (fe_callTy cd_tuple (by rfl) T.z_tuple rfl (fps_cons (fe_comp (own := [("cell", 8)]) rfl sc_law_scale.nd (fi_range1 (by rfl) T.z_range (fps_cons (fe_bin od_mul fe_int (fe_name (pv 2))) fps_nil)) (blkOk_by (by kernel_rfl)) (fun _ _ _ _ _ => (fg_name (i := 8) sc_law_scale.nd rfl (by first | exact Or.inl rfl | exact Or.inr rfl))) (fun _ _ _ _ _ => fts_nil) (fun _ _ _ _ _ => (FE.take (fe_callTy cd_int (by rfl) T.z_int rfl (fps_cons (fe_cmp (od_eq (hu65 hr)) (fe_bin od_div (fe_name (pv 8)) (fe_name (pv 2))) (fe_name (pv 7))) fps_nil))))) fps_nil)))))
    (fss_cons (fs_ret (fe_callTy cd_tuple (by rfl) T.z_tuple rfl (fps_cons (fe_bin od_add (fe_name (pv 3)) (fe_comp (own := [("column", 9)]) rfl sc_law_scale.nd (fi_range1 (by rfl) T.z_range (fps_cons (fe_name (pv 2)) fps_nil)) (blkOk_by (by kernel_rfl)) (fun _ _ _ _ _ => (fg_name (i := 9) sc_law_scale.nd rfl (by first | exact Or.inl rfl | exact Or.inr rfl))) (fun _ _ _ _ _ => fts_nil) (fun _ _ _ _ _ => (FE.take (fe_callTy cd_tuple (by rfl) T.z_tuple rfl (fps_cons (fe_comp (own := [("cell", 8)]) rfl sc_law_scale.nd (fi_range1 (by rfl) T.z_range (fps_cons (fe_bin od_mul fe_int (fe_name (pv 2))) fps_nil)) (blkOk_by (by kernel_rfl)) (fun _ _ _ _ _ => (fg_name (i := 8) sc_law_scale.nd rfl (by first | exact Or.inl rfl | exact Or.inr rfl))) (fun _ _ _ _ _ => fts_nil) (fun _ _ _ _ _ => (FE.take (fe_callTy cd_int (by rfl) T.z_int rfl (fps_cons (fe_cmp (od_eq (hu65 hr)) (fe_bin od_mod (fe_name (pv 8)) (fe_name (pv 2))) (fe_name (pv 9))) fps_nil))))) fps_nil)))))) fps_nil)))
    fss_nil))) fss_nil)
    (fss_cons (fs_bind (FE.take (fe_tup (fcs_cons (FE.take (fe_bin od_add fe_int (fe_call (G_law_draw (P := P) (w := w) (base := base) T) (hr.mono (by decide)) hg (by rfl) T.g_law_draw T.F_law_draw.kp T.b_law_draw (fas_ref (pv 0) (fas_dat (FE.take fe_int) fas_nil))))) (fcs_cons (FE.take (fe_bin od_add fe_int (fe_call (G_law_draw (P := P) (w := w) (base := base) T) (hr.mono (by decide)) hg (by rfl) T.g_law_draw T.F_law_draw.kp T.b_law_draw (fas_ref (pv 0) (fas_dat (FE.take fe_int) fas_nil))))) fcs_nil)))) (fg_tup rfl (fgs_cons (fg_name (i := 4) sc_law_scale.nd rfl (by first | exact Or.inl rfl | exact Or.inr rfl)) (fgs_cons (fg_name (i := 5) sc_law_scale.nd rfl (by first | exact Or.inl rfl | exact Or.inr rfl)) fgs_nil)) 2 (bCons_len (bCons_len bNil_len))))
    (fss_rows (rw := 3) (ro := 7) (ki := 6) (own := [("row", 7)]) rfl sc_law_scale.nd rfl rfl (sw_true rfl rfl rfl rfl) (fi_range1 (by rfl) T.z_range (fps_cons (fe_name (pv 5)) fps_nil)) (blkOk_by (by kernel_rfl)) (fun _ _ _ _ _ => (fg_name (i := 7) sc_law_scale.nd rfl (by first | exact Or.inl rfl | exact Or.inr rfl))) (fun _ _ _ _ _ => (fe_comp (own := [("kind", 6)]) rfl sc_law_scale.nd (fi_range1 (by rfl) T.z_range (fps_cons (fe_name (pv 4)) fps_nil)) (blkOk_by (by kernel_rfl)) (fun _ _ _ _ _ => (fg_name (i := 6) sc_law_scale.nd rfl (by first | exact Or.inl rfl | exact Or.inr rfl))) (fun _ _ _ _ _ => fts_nil) (fun _ _ _ _ _ => (FE.take (fe_call (G_law_draw (P := P) (w := w) (base := base) T) (hr.mono (by decide)) hg (by rfl) T.g_law_draw T.F_law_draw.kp T.b_law_draw (fas_ref (pv 0) (fas_dat (FE.take fe_int) fas_nil))))))) (by decide) (fun _ => rfl) (by rfl) T.z_range (fps_cons (fe_name (pv 4)) fps_nil) rfl (fun _ => rfl) rfl (by first | exact Or.inl rfl | exact Or.inr rfl) (.inl rfl) (ft_cmp (od_eq (hu65 hr)) (fe_callB (cd_sum rfl) (by rfl) T.z_sum rfl (fps_cons (fe_comp (own := [("row", 7)]) rfl sc_law_scale.nd (fi_seq (fe_name (pv 3))) (blkOk_by (by kernel_rfl)) (fun _ _ _ _ _ => (fg_name (i := 7) sc_law_scale.nd rfl (by first | exact Or.inl rfl | exact Or.inr rfl))) (fun _ _ _ _ _ => fts_nil) (fun _ _ _ _ _ => (FE.take (fe_ix (fe_name (pv 7)) (fe_name (pv 6)))))) fps_nil)) fe_int) (fe_call (G_law_draw (P := P) (w := w) (base := base) T) (hr.mono (by decide)) hg (by rfl) T.g_law_draw T.F_law_draw.kp T.b_law_draw (fas_ref (pv 0) (fas_dat (FE.take (fe_name (pv 5))) fas_nil))) (fun _ _ => rfl) rfl (by first | exact Or.inl rfl | exact Or.inr rfl) (.inl rfl) rfl (pv 3) (pv 7) (pv 6) (by decide) (by decide) (by decide) rfl rfl rfl (fun _ => rfl)
    (fss_cons (fs_ret (fe_callTy cd_tuple (by rfl) T.z_tuple rfl (fps_cons (fe_comp (own := [("row", 7)]) rfl sc_law_scale.nd (fi_seq (fe_call (G_law_cut (P := P) (w := w) (base := base) T) (hr.mono (by decide)) hg (by rfl) T.g_law_cut T.F_law_cut.kp T.b_law_cut (fas_dat (FE.take (fe_name (pv 3))) fas_nil))) (blkOk_by (by kernel_rfl)) (fun _ _ _ _ _ => (fg_name (i := 7) sc_law_scale.nd rfl (by first | exact Or.inl rfl | exact Or.inr rfl))) (fun _ _ _ _ _ => fts_nil) (fun _ _ _ _ _ => (FE.take (fe_callTy cd_tuple (by rfl) T.z_tuple rfl (fps_cons (fe_name (pv 7)) fps_nil))))) fps_nil)))
    fss_nil))))))
theorem sc_law_pick : FnScope ["deck", "items"] ["deck", "items"] (defScope s_law_pick) := ⟨rfl, rfl, rfl, by decide +kernel, rfl, by decide +kernel, by decide +kernel⟩
theorem G_law_pick (T : Txt K mg) : FnG P w K mg base 2 T.a_law_pick T.d_law_pick ["deck", "items"] (spF mg K 2 F_law_pick) := by
  refine fn_data T.F_law_pick sc_law_pick fun cdv A outer s H E hr hg => ?_
  exact (fss_cons (fs_ret (fe_ix (fe_name (pv 1)) (fe_call (G_law_draw (P := P) (w := w) (base := base) T) (hr.mono (by decide)) hg (by rfl) T.g_law_draw T.F_law_draw.kp T.b_law_draw (fas_ref (pv 0) (fas_dat (FE.take (fe_callB cd_len (by rfl) T.z_len rfl (fps_cons (fe_name (pv 1)) fps_nil))) fas_nil)))))
    fss_nil)
theorem sc_is_tuple : FnScope ["value", "least", "most"] ["value", "least", "most"] (defScope s_is_tuple) := ⟨rfl, rfl, rfl, by decide +kernel, rfl, by decide +kernel, by decide +kernel⟩
theorem G_is_tuple (T : Txt K mg) : FnG P w K mg base 1 T.a_is_tuple T.d_is_tuple ["value", "least", "most"] (spF mg K 3 F_is_tuple) := by
  refine fn_data T.F_is_tuple sc_is_tuple fun cdv A outer s H E hr hg => ?_
  exact (fss_cons (fs_ret (fe_and (fe_isa isa_tuple (by rfl) T.z_isinstance (by rfl) T.z_tuple rfl (fe_name (pv 0))) (fe_one (fe_chain op_le op_le (fun a b c => pe_chain op_le op_le a b c) (fe_name (pv 1)) (fe_callB cd_len (by rfl) T.z_len rfl (fps_cons (fe_name (pv 0)) fps_nil)) (fe_name (pv 2))))))
    fss_nil)
theorem sc_is_integer : FnScope ["value", "low", "high"] ["value", "low", "high"] (defScope s_is_integer) := ⟨rfl, rfl, rfl, by decide +kernel, rfl, by decide +kernel, by decide +kernel⟩
theorem G_is_integer (T : Txt K mg) : FnG P w K mg base 1 T.a_is_integer T.d_is_integer ["value", "low", "high"] (spF mg K 3 F_is_integer) := by
  refine fn_data T.F_is_integer sc_is_integer fun cdv A outer s H E hr hg => ?_
  exact (fss_cons (fs_ret (fe_and (fe_isa isa_int (by rfl) T.z_isinstance (by rfl) T.z_int rfl (fe_name (pv 0))) (fe_and (fe_not (fe_isa isa_bool (by rfl) T.z_isinstance (by rfl) T.z_bool rfl (fe_name (pv 0)))) (fe_one (fe_chain op_le op_le (fun a b c => pe_chain op_le op_le a b c) (fe_name (pv 1)) (fe_name (pv 0)) (fe_name (pv 2)))))))
    fss_nil)
theorem sc_is_heap : FnScope ["scale", "value", "kinds", "count"] ["scale", "value"] (defScope s_is_heap) := ⟨rfl, rfl, rfl, by decide +kernel, rfl, by decide +kernel, by decide +kernel⟩
theorem G_is_heap (T : Txt K mg) : FnG P w K mg base 2 T.a_is_heap T.d_is_heap ["scale", "value"] (spF mg K 2 F_is_heap) := by
  refine fn_data T.F_is_heap sc_is_heap fun cdv A outer s H E hr hg => ?_
  exact (fss_cons (fs_set (i := 2) sc_is_heap.nd rfl (by first | exact Or.inl rfl | exact Or.inr rfl) (fe_callB cd_len (by rfl) T.z_len rfl (fps_cons (fe_ix (fe_name (pv 0)) fe_int) fps_nil)))
    (fss_cons (fs_ret (fe_and (fe_call (G_is_tuple (P := P) (w := w) (base := base) T) (hr.mono (by decide)) hg (by rfl) T.g_is_tuple T.F_is_tuple.kp T.b_is_tuple (fas_dat (FE.take (fe_name (pv 1))) (fas_dat (FE.take (fe_name (pv 2))) (fas_dat (FE.take (fe_name (pv 2))) fas_nil)))) (fe_one (fe_callB (cd_all rfl) (by rfl) T.z_all rfl (fps_cons (fe_comp (own := [("count", 3)]) rfl sc_is_heap.nd (fi_seq (fe_name (pv 1))) (blkOk_by (by kernel_rfl)) (fun _ _ _ _ _ => (fg_name (i := 3) sc_is_heap.nd rfl (by first | exact Or.inl rfl | exact Or.inr rfl))) (fun _ _ _ _ _ => fts_nil) (fun _ _ _ _ _ => (FE.take (fe_call (G_is_integer (P := P) (w := w) (base := base) T) (hr.mono (by decide)) hg (by rfl) T.g_is_integer T.F_is_integer.kp T.b_is_integer (fas_dat (FE.take (fe_name (pv 3))) (fas_dat (FE.take fe_int) (fas_dat (FE.take (fe_gint (by rfl) T.c_MAX_COUNT.choose_spec)) fas_nil))))))) fps_nil)))))
    fss_nil))
theorem sc_sums_of : FnScope ["scale", "heap", "row", "weight", "count"] ["scale", "heap"] (defScope s_sums_of) := ⟨rfl, rfl, rfl, by decide +kernel, rfl, by decide +kernel, by decide +kernel⟩
theorem G_sums_of (T : Txt K mg) : FnG P w K mg base 1 T.a_sums_of T.d_sums_of ["scale", "heap"] (spF mg K 2 F_sums_of) := by
  refine fn_data T.F_sums_of sc_sums_of fun cdv A outer s H E hr hg => ?_
  exact (fss_cons (fs_ret (fe_callTy cd_tuple (by rfl) T.z_tuple rfl (fps_cons (fe_comp (own := [("row", 2)]) rfl sc_sums_of.nd (fi_seq (fe_name (pv 0))) (blkOk_by (by kernel_rfl)) (fun _ _ _ _ _ => (fg_name (i := 2) sc_sums_of.nd rfl (by first | exact Or.inl rfl | exact Or.inr rfl))) (fun _ _ _ _ _ => fts_nil) (fun _ _ _ _ _ => (FE.take (fe_callB (cd_sum rfl) (by rfl) T.z_sum rfl (fps_cons (fe_comp (own := [("weight", 3), ("count", 4)]) rfl sc_sums_of.nd (fi_zip (by rfl) T.z_zip (fcs_cons (FE.take (fe_name (pv 2))) (fcs_cons (FE.take (fe_name (pv 1))) fcs_nil))) (blkOk_by (by kernel_rfl)) (fun _ _ _ _ _ => (fg_tup rfl (fgs_cons (fg_name (i := 3) sc_sums_of.nd rfl (by first | exact Or.inl rfl | exact Or.inr rfl)) (fgs_cons (fg_name (i := 4) sc_sums_of.nd rfl (by first | exact Or.inl rfl | exact Or.inr rfl)) fgs_nil)) 2 (bCons_len (bCons_len bNil_len)))) (fun _ _ _ _ _ => fts_nil) (fun _ _ _ _ _ => (FE.take (fe_bin od_mul (fe_name (pv 3)) (fe_name (pv 4)))))) fps_nil))))) fps_nil)))
    fss_nil)
theorem sc_law_sums : FnScope ["scale", "heap", "row", "weight", "count"] ["scale", "heap"] (defScope s_law_sums) := ⟨rfl, rfl, rfl, by decide +kernel, rfl, by decide +kernel, by decide +kernel⟩
theorem G_law_sums (T : Txt K mg) : FnG P w K mg base 1 T.a_law_sums T.d_law_sums ["scale", "heap"] (spF mg K 2 F_law_sums) := by
  refine fn_data T.F_law_sums sc_law_sums fun cdv A outer s H E hr hg => ?_
  exact (fss_cons (fs_ret (fe_callTy cd_tuple (by rfl) T.z_tuple rfl (fps_cons (fe_comp (own := [("row", 2)]) rfl sc_law_sums.nd (fi_seq (fe_name (pv 0))) (blkOk_by (by kernel_rfl)) (fun _ _ _ _ _ => (fg_name (i := 2) sc_law_sums.nd rfl (by first | exact Or.inl rfl | exact Or.inr rfl))) (fun _ _ _ _ _ => fts_nil) (fun _ _ _ _ _ => (FE.take (fe_callB (cd_sum rfl) (by rfl) T.z_sum rfl (fps_cons (fe_comp (own := [("weight", 3), ("count", 4)]) rfl sc_law_sums.nd (fi_zip (by rfl) T.z_zip (fcs_cons (FE.take (fe_name (pv 2))) (fcs_cons (FE.take (fe_name (pv 1))) fcs_nil))) (blkOk_by (by kernel_rfl)) (fun _ _ _ _ _ => (fg_tup rfl (fgs_cons (fg_name (i := 3) sc_law_sums.nd rfl (by first | exact Or.inl rfl | exact Or.inr rfl)) (fgs_cons (fg_name (i := 4) sc_law_sums.nd rfl (by first | exact Or.inl rfl | exact Or.inr rfl)) fgs_nil)) 2 (bCons_len (bCons_len bNil_len)))) (fun _ _ _ _ _ => fts_nil) (fun _ _ _ _ _ => (FE.take (fe_bin od_mul (fe_name (pv 3)) (fe_name (pv 4)))))) fps_nil))))) fps_nil)))
    fss_nil)
theorem sc_law : FnScope ["script", "deck", "turn", "scale", "kinds", "heap", "held", "at", "odd", "bad", "more", "kind", "value"] ["script"] (defScope s_law) := ⟨rfl, rfl, rfl, by decide +kernel, rfl, by decide +kernel, by decide +kernel⟩
theorem G_law (T : Txt K mg) : FnG P w K mg base 4 T.a_law T.d_law ["script"] (spF mg K 1 F_law) := by
  refine fn_data T.F_law sc_law fun cdv A outer s H E hr hg => ?_
  exact (fss_cons (fs_set (i := 1) sc_law.nd rfl (by first | exact Or.inl rfl | exact Or.inr rfl) (fe_call (G_law_deck (P := P) (w := w) (base := base) T) (hr.mono (by decide)) hg (by rfl) T.g_law_deck T.F_law_deck.kp T.b_law_deck (fas_dat (FE.take (fe_name (pv 0))) fas_nil)))
    (fss_cons (fs_for rfl (fi_range1 (by rfl) T.z_range (fps_cons fe_int fps_nil)) (fg_name (i := 2) sc_law.nd rfl (by first | exact Or.inl rfl | exact Or.inr rfl)) (fss_cons (fs_set (i := 3) sc_law.nd rfl (by first | exact Or.inl rfl | exact Or.inr rfl) (fe_call (G_law_scale (P := P) (w := w) (base := base) T) (hr.mono (by decide)) hg (by rfl) T.g_law_scale T.F_law_scale.kp T.b_law_scale (fas_ref (pv 1) fas_nil)))
    (fss_cons (fs_set (i := 4) sc_law.nd rfl (by first | exact Or.inl rfl | exact Or.inr rfl) (fe_callB cd_len (by rfl) T.z_len rfl (fps_cons (fe_ix (fe_name (pv 3)) fe_int) fps_nil)))
    (fss_cons (fs_set (i := 5) sc_law.nd rfl (by first | exact Or.inl rfl | exact Or.inr rfl) (fe_callTy cd_tuple (by rfl) T.z_tuple rfl (fps_cons (fe_comp (own := [("kind", 11)]) rfl sc_law.nd (fi_range1 (by rfl) T.z_range (fps_cons (fe_name (pv 4)) fps_nil)) (blkOk_by (by kernel_rfl)) (fun _ _ _ _ _ => (fg_name (i := 11) sc_law.nd rfl (by first | exact Or.inl rfl | exact Or.inr rfl))) (fun _ _ _ _ _ => fts_nil) (fun _ _ _ _ _ => (FE.take (fe_call (G_law_pick (P := P) (w := w) (base := base) T) (hr.mono (by decide)) hg (by rfl) T.g_law_pick T.F_law_pick.kp T.b_law_pick (fas_ref (pv 1) (fas_dat (FE.take (fe_lst (fcs_cons (FE.take fe_int) (fcs_cons (FE.take fe_int) (fcs_cons (FE.take fe_int) (fcs_cons (FE.take (fe_call (G_law_draw (P := P) (w := w) (base := base) T) (hr.mono (by decide)) hg (by rfl) T.g_law_draw T.F_law_draw.kp T.b_law_draw (fas_ref (pv 1) (fas_dat (FE.take fe_int) fas_nil)))) fcs_nil)))))) fas_nil)))))) fps_nil)))
    (fss_cons (fs_set (i := 6) sc_law.nd rfl (by first | exact Or.inl rfl | exact Or.inr rfl) (fe_callB (cd_repr hg (hu65 hr)) (by rfl) T.z_repr rfl (fps_cons (fe_lst (fcs_cons (FE.take (fe_name (pv 3))) (fcs_cons (FE.take (fe_name (pv 5))) fcs_nil))) fps_nil)))
    (fss_cons (fs_if (FW.pt (fw_or (ft_cmp od_isNot (fe_call (G_is_heap (P := P) (w := w) (base := base) T) (hr.mono (by decide)) hg (by rfl) T.g_is_heap T.F_is_heap.kp T.b_is_heap (fas_dat (FE.take (fe_name (pv 3))) (fas_dat (FE.take (fe_name (pv 5))) fas_nil))) fe_bl) (fw_or1 (ft_cmp (od_ne (hu65 hr)) (fe_callB (cd_repr hg (hu65 hr)) (by rfl) T.z_repr rfl (fps_cons (fe_call (G_sums_of (P := P) (w := w) (base := base) T) (hr.mono (by decide)) hg (by rfl) T.g_sums_of T.F_sums_of.kp T.b_sums_of (fas_dat (FE.take (fe_name (pv 3))) (fas_dat (FE.take (fe_name (pv 5))) fas_nil))) fps_nil)) (fe_callB (cd_repr hg (hu65 hr)) (by rfl) T.z_repr rfl (fps_cons (fe_call (G_law_sums (P := P) (w := w) (base := base) T) (hr.mono (by decide)) hg (by rfl) T.g_law_sums T.F_law_sums.kp T.b_law_sums (fas_dat (FE.take (fe_name (pv 3))) (fas_dat (FE.take (fe_name (pv 5))) fas_nil))) fps_nil)))))) (fss_cons (fs_ret fe_bl)
    fss_nil) fss_nil)
    (fss_cons (fs_set (i := 7) sc_law.nd rfl (by first | exact Or.inl rfl | exact Or.inr rfl) (fe_call (G_law_draw (P := P) (w := w) (base := base) T) (hr.mono (by decide)) hg (by rfl) T.g_law_draw T.F_law_draw.kp T.b_law_draw (fas_ref (pv 1) (fas_dat (FE.take (fe_name (pv 4))) fas_nil))))
    (fss_cons (fs_set (i := 8) sc_law.nd rfl (by first | exact Or.inl rfl | exact Or.inr rfl) (fe_call (G_law_pick (P := P) (w := w) (base := base) T) (hr.mono (by decide)) hg (by rfl) T.g_law_pick T.F_law_pick.kp T.b_law_pick (fas_ref (pv 1) (fas_dat (FE.take (fe_lst (fcs_cons (FE.take (fe_neg fe_int)) (fcs_cons (FE.take fe_int) (fcs_cons (FE.take fe_bl) (fcs_cons (FE.take fe_non) (fcs_cons (FE.take fe_str) (fcs_cons (FE.take (fe_bin od_pow fe_int fe_int)) (fcs_cons (FE.take (fe_tup (fcs_cons (FE.take (fe_tup (fcs_cons (FE.take fe_int) fcs_nil))) fcs_nil))) (fcs_cons (FE.take (fe_lst (fcs_cons (FE.take fe_int) fcs_nil))) fcs_nil)))))))))) fas_nil))))
    (fss_cons (fs_set (i := 9) sc_law.nd rfl (by first | exact Or.inl rfl | exact Or.inr rfl) (fe_lst (fcs_cons (FE.take (fe_bin od_add (fe_bin od_add (fe_slice (fe_name (pv 5)) fo_none (fo_some (fe_name (pv 7)))) (fe_tup (fcs_cons (FE.take (fe_name (pv 8))) fcs_nil))) (fe_slice (fe_name (pv 5)) (fo_some (fe_bin od_add (fe_name (pv 7)) fe_int)) fo_none))) (fcs_cons (FE.take (fe_bin od_add (fe_name (pv 5)) (fe_tup (fcs_cons (FE.take fe_int) fcs_nil)))) (fcs_cons (FE.take (fe_slice (fe_name (pv 5)) (fo_some fe_int) fo_none)) (fcs_cons (FE.take (fe_callTy cd_list (by rfl) T.z_list rfl (fps_cons (fe_name (pv 5)) fps_nil))) (fcs_cons (FE.take (fe_name (pv 8))) (fcs_cons (FE.take fe_dict0) (fcs_cons (FE.take (fe_tup (fcs_cons (FE.take (fe_name (pv 5))) fcs_nil))) fcs_nil)))))))))
    (fss_cons (fs_if (ft_cmp (od_ne (hu65 hr)) (fe_comp (own := [("value", 12)]) rfl sc_law.nd (fi_seq (fe_name (pv 9))) (blkOk_by (by kernel_rfl)) (fun _ _ _ _ _ => (fg_name (i := 12) sc_law.nd rfl (by first | exact Or.inl rfl | exact Or.inr rfl))) (fun _ _ _ _ _ => (fts_one (ft_cmp od_isNot (fe_call (G_is_heap (P := P) (w := w) (base := base) T) (hr.mono (by decide)) hg (by rfl) T.g_is_heap T.F_is_heap.kp T.b_is_heap (fas_dat (FE.take (fe_name (pv 3))) (fas_dat (FE.take (fe_name (pv 12))) fas_nil))) fe_bl))) (fun _ _ _ _ _ => (FE.take fe_int))) (fe_lst fcs_nil)) (fss_cons (fs_ret fe_bl)
    fss_nil) fss_nil)
    (fss_cons (fs_set (i := 10) sc_law.nd rfl (by first | exact Or.inl rfl | exact Or.inr rfl) (fe_bin od_add (fe_bin od_add (fe_slice (fe_name (pv 5)) fo_none (fo_some (fe_name (pv 7)))) (fe_tup (fcs_cons (FE.take (fe_bin od_sub fe_int (fe_ix (fe_name (pv 5)) (fe_name (pv 7))))) fcs_nil))) (fe_slice (fe_name (pv 5)) (fo_some (fe_bin od_add (fe_name (pv 7)) fe_int)) fo_none)))
    (fss_cons (fs_if (FW.pt (fw_or (ft_cmp (od_ne (hu65 hr)) (fe_callB (cd_repr hg (hu65 hr)) (by rfl) T.z_repr rfl (fps_cons (fe_call (G_sums_of (P := P) (w := w) (base := base) T) (hr.mono (by decide)) hg (by rfl) T.g_sums_of T.F_sums_of.kp T.b_sums_of (fas_dat (FE.take (fe_name (pv 3))) (fas_dat (FE.take (fe_name (pv 10))) fas_nil))) fps_nil)) (fe_callB (cd_repr hg (hu65 hr)) (by rfl) T.z_repr rfl (fps_cons (fe_call (G_law_sums (P := P) (w := w) (base := base) T) (hr.mono (by decide)) hg (by rfl) T.g_law_sums T.F_law_sums.kp T.b_law_sums (fas_dat (FE.take (fe_name (pv 3))) (fas_dat (FE.take (fe_name (pv 10))) fas_nil))) fps_nil))) (fw_or1 (ft_cmp (od_ne (hu65 hr)) (fe_callB (cd_repr hg (hu65 hr)) (by rfl) T.z_repr rfl (fps_cons (fe_lst (fcs_cons (FE.take (fe_name (pv 3))) (fcs_cons (FE.take (fe_name (pv 5))) fcs_nil))) fps_nil)) (fe_name (pv 6)))))) (fss_cons (fs_ret fe_bl)
    fss_nil) fss_nil)
    fss_nil))))))))))))
    (fss_cons (fs_ret fe_bl)
    fss_nil)))
end
end BH.K01

set_option maxRecDepth 100000
set_option maxHeartbeats 4000000
namespace BH.K01
open PySem PySem.Spec PyProof.Rows L2
theorem all_mk {l : PySem.W.OpenLaw} {w : World} {K : PySem.W.Frag} {h : Heap} {mg : Str → Option Value} {fa f0 f1 f2 f3 f4 f5 f6 f7 f8 f9 f10 f11 : Addr} (X : K.In h) (G : h.Ns mainGlobals mg) (hfa : mg "law" = some (.ref fa))
    {od0 an0 od1 an1 od2 an2 od3 an3 od4 an4 od5 an5 od6 an6 od7 an7 od8 an8 od9 an9 od10 an10 od11 an11 : Option Addr} {sl0 sl1 sl2 sl3 sl4 sl5 sl6 sl7 sl8 sl9 sl10 sl11 : Array (Option Value)} {oc0 kV0 dc0 pm0 cd0 ct0 oc1 kV1 dc1 pm1 cd1 ct1 oc2 kV2 dc2 pm2 cd2 ct2 oc3 kV3 dc3 pm3 cd3 ct3 oc4 kV4 dc4 pm4 cd4 ct4 oc5 kV5 dc5 pm5 cd5 ct5 oc6 kV6 dc6 pm6 cd6 ct6 oc7 kV7 dc7 pm7 cd7 ct7 oc8 kV8 dc8 pm8 cd8 ct8 oc9 kV9 dc9 pm9 cd9 ct9 oc10 kV10 dc10 pm10 cd10 ct10 oc11 kV11 dc11 pm11 cd11 ct11 : Value} {t_MAX_COUNT : Tok}
    (a0 : PySem.W.nsIn K mainGlobals "_law_deck" = some (some (.ref f0))) (l0 : K.lookup f0 = some ⟨oc0, od0, .func (PySem.W.fnOf "_law_deck" "_law_deck" (defArgs s_law_deck) (defBody s_law_deck) (defScope s_law_deck) .none kV0 dc0 pm0 an0 cd0 ct0), sl0⟩) (c0 : PySem.W.codeIn K cd0 "_law_deck" = true) (k0 : PySem.W.keepIn K (.ref f0) = true)
    (a1 : PySem.W.nsIn K mainGlobals "_law_draw" = some (some (.ref f1))) (l1 : K.lookup f1 = some ⟨oc1, od1, .func (PySem.W.fnOf "_law_draw" "_law_draw" (defArgs s_law_draw) (defBody s_law_draw) (defScope s_law_draw) .none kV1 dc1 pm1 an1 cd1 ct1), sl1⟩) (c1 : PySem.W.codeIn K cd1 "_law_draw" = true) (k1 : PySem.W.keepIn K (.ref f1) = true)
    (a2 : PySem.W.nsIn K mainGlobals "_law_rank" = some (some (.ref f2))) (l2 : K.lookup f2 = some ⟨oc2, od2, .func (PySem.W.fnOf "_law_rank" "_law_rank" (defArgs s_law_rank) (defBody s_law_rank) (defScope s_law_rank) .none kV2 dc2 pm2 an2 cd2 ct2), sl2⟩) (c2 : PySem.W.codeIn K cd2 "_law_rank" = true) (k2 : PySem.W.keepIn K (.ref f2) = true)
    (a3 : PySem.W.nsIn K mainGlobals "_law_cut" = some (some (.ref f3))) (l3 : K.lookup f3 = some ⟨oc3, od3, .func (PySem.W.fnOf "_law_cut" "_law_cut" (defArgs s_law_cut) (defBody s_law_cut) (defScope s_law_cut) .none kV3 dc3 pm3 an3 cd3 ct3), sl3⟩) (c3 : PySem.W.codeIn K cd3 "_law_cut" = true) (k3 : PySem.W.keepIn K (.ref f3) = true)
    (a4 : PySem.W.nsIn K mainGlobals "_law_scale" = some (some (.ref f4))) (l4 : K.lookup f4 = some ⟨oc4, od4, .func (PySem.W.fnOf "_law_scale" "_law_scale" (defArgs s_law_scale) (defBody s_law_scale) (defScope s_law_scale) .none kV4 dc4 pm4 an4 cd4 ct4), sl4⟩) (c4 : PySem.W.codeIn K cd4 "_law_scale" = true) (k4 : PySem.W.keepIn K (.ref f4) = true)
    (a5 : PySem.W.nsIn K mainGlobals "_law_pick" = some (some (.ref f5))) (l5 : K.lookup f5 = some ⟨oc5, od5, .func (PySem.W.fnOf "_law_pick" "_law_pick" (defArgs s_law_pick) (defBody s_law_pick) (defScope s_law_pick) .none kV5 dc5 pm5 an5 cd5 ct5), sl5⟩) (c5 : PySem.W.codeIn K cd5 "_law_pick" = true) (k5 : PySem.W.keepIn K (.ref f5) = true)
    (a6 : PySem.W.nsIn K mainGlobals "is_tuple" = some (some (.ref f6))) (l6 : K.lookup f6 = some ⟨oc6, od6, .func (PySem.W.fnOf "is_tuple" "is_tuple" (defArgs s_is_tuple) (defBody s_is_tuple) (defScope s_is_tuple) .none kV6 dc6 pm6 an6 cd6 ct6), sl6⟩) (c6 : PySem.W.codeIn K cd6 "is_tuple" = true) (k6 : PySem.W.keepIn K (.ref f6) = true)
    (a7 : PySem.W.nsIn K mainGlobals "is_integer" = some (some (.ref f7))) (l7 : K.lookup f7 = some ⟨oc7, od7, .func (PySem.W.fnOf "is_integer" "is_integer" (defArgs s_is_integer) (defBody s_is_integer) (defScope s_is_integer) .none kV7 dc7 pm7 an7 cd7 ct7), sl7⟩) (c7 : PySem.W.codeIn K cd7 "is_integer" = true) (k7 : PySem.W.keepIn K (.ref f7) = true)
    (a8 : PySem.W.nsIn K mainGlobals "is_heap" = some (some (.ref f8))) (l8 : K.lookup f8 = some ⟨oc8, od8, .func (PySem.W.fnOf "is_heap" "is_heap" (defArgs s_is_heap) (defBody s_is_heap) (defScope s_is_heap) .none kV8 dc8 pm8 an8 cd8 ct8), sl8⟩) (c8 : PySem.W.codeIn K cd8 "is_heap" = true) (k8 : PySem.W.keepIn K (.ref f8) = true)
    (a9 : PySem.W.nsIn K mainGlobals "sums_of" = some (some (.ref f9))) (l9 : K.lookup f9 = some ⟨oc9, od9, .func (PySem.W.fnOf "sums_of" "sums_of" (defArgs s_sums_of) (defBody s_sums_of) (defScope s_sums_of) .none kV9 dc9 pm9 an9 cd9 ct9), sl9⟩) (c9 : PySem.W.codeIn K cd9 "sums_of" = true) (k9 : PySem.W.keepIn K (.ref f9) = true)
    (a10 : PySem.W.nsIn K mainGlobals "_law_sums" = some (some (.ref f10))) (l10 : K.lookup f10 = some ⟨oc10, od10, .func (PySem.W.fnOf "_law_sums" "_law_sums" (defArgs s_law_sums) (defBody s_law_sums) (defScope s_law_sums) .none kV10 dc10 pm10 an10 cd10 ct10), sl10⟩) (c10 : PySem.W.codeIn K cd10 "_law_sums" = true) (k10 : PySem.W.keepIn K (.ref f10) = true)
    (a11 : PySem.W.nsIn K mainGlobals "law" = some (some (.ref f11))) (l11 : K.lookup f11 = some ⟨oc11, od11, .func (PySem.W.fnOf "law" "law" (defArgs s_law) (defBody s_law) (defScope s_law) .none kV11 dc11 pm11 an11 cd11 ct11), sl11⟩) (c11 : PySem.W.codeIn K cd11 "law" = true) (k11 : PySem.W.keepIn K (.ref f11) = true)
    (v_MAX_COUNT : PySem.W.nsIn K mainGlobals "MAX_COUNT" = some (some (.int 40 t_MAX_COUNT)))
    (z_len : PySem.W.nsIn K mainGlobals "len" = some none) (z_abs : PySem.W.nsIn K mainGlobals "abs" = some none) (z_int : PySem.W.nsIn K mainGlobals "int" = some none) (z_list : PySem.W.nsIn K mainGlobals "list" = some none) (z_range : PySem.W.nsIn K mainGlobals "range" = some none) (z_zip : PySem.W.nsIn K mainGlobals "zip" = some none) (z_tuple : PySem.W.nsIn K mainGlobals "tuple" = some none) (z_sum : PySem.W.nsIn K mainGlobals "sum" = some none) (z_isinstance : PySem.W.nsIn K mainGlobals "isinstance" = some none) (z_bool : PySem.W.nsIn K mainGlobals "bool" = some none) (z_all : PySem.W.nsIn K mainGlobals "all" = some none) (z_repr : PySem.W.nsIn K mainGlobals "repr" = some none) :
    ∃ fd : FuncData, (∀ (s : Shared) (v : Value), BindsTo s fd ⟨[v], []⟩ [("script", v)]) ∧ ∀ base : Heap, K.In base → base.Ns mainGlobals mg → FnG l.prog w K mg base 4 fa fd ["script"] (spF mg K 1 F_law) := by
  have e := hfa.symm.trans (PySem.W.mg_of X G a11)
  cases e
  exact ⟨PySem.W.fnOf "law" "law" (defArgs s_law) (defBody s_law) (defScope s_law) .none kV11 dc11 pm11 an11 cd11 ct11, fun s v => .of_eq rfl, fun base _ _ => G_law { c_MAX_COUNT := ⟨_, PySem.W.mg_of X G v_MAX_COUNT⟩, z_len := PySem.W.mg_none_of X G z_len, z_abs := PySem.W.mg_none_of X G z_abs, z_int := PySem.W.mg_none_of X G z_int, z_list := PySem.W.mg_none_of X G z_list, z_range := PySem.W.mg_none_of X G z_range, z_zip := PySem.W.mg_none_of X G z_zip, z_tuple := PySem.W.mg_none_of X G z_tuple, z_sum := PySem.W.mg_none_of X G z_sum, z_isinstance := PySem.W.mg_none_of X G z_isinstance, z_bool := PySem.W.mg_none_of X G z_bool, z_all := PySem.W.mg_none_of X G z_all, z_repr := PySem.W.mg_none_of X G z_repr, a_law_deck := f0, d_law_deck := _, g_law_deck := PySem.W.mg_of X G a0, F_law_deck := fun_mk (st := s_law_deck) l0 c0 k0, b_law_deck := (fun_mk (st := s_law_deck) l0 c0 k0).binds fun _ _ _ _ _ _ us hl => match us, hl with | [_], _ => rfl, a_law_draw := f1, d_law_draw := _, g_law_draw := PySem.W.mg_of X G a1, F_law_draw := fun_mk (st := s_law_draw) l1 c1 k1, b_law_draw := (fun_mk (st := s_law_draw) l1 c1 k1).binds fun _ _ _ _ _ _ us hl => match us, hl with | [_, _], _ => rfl, a_law_rank := f2, d_law_rank := _, g_law_rank := PySem.W.mg_of X G a2, F_law_rank := fun_mk (st := s_law_rank) l2 c2 k2, b_law_rank := (fun_mk (st := s_law_rank) l2 c2 k2).binds fun _ _ _ _ _ _ us hl => match us, hl with | [_], _ => rfl, a_law_cut := f3, d_law_cut := _, g_law_cut := PySem.W.mg_of X G a3, F_law_cut := fun_mk (st := s_law_cut) l3 c3 k3, b_law_cut := (fun_mk (st := s_law_cut) l3 c3 k3).binds fun _ _ _ _ _ _ us hl => match us, hl with | [_], _ => rfl, a_law_scale := f4, d_law_scale := _, g_law_scale := PySem.W.mg_of X G a4, F_law_scale := fun_mk (st := s_law_scale) l4 c4 k4, b_law_scale := (fun_mk (st := s_law_scale) l4 c4 k4).binds fun _ _ _ _ _ _ us hl => match us, hl with | [_], _ => rfl, a_law_pick := f5, d_law_pick := _, g_law_pick := PySem.W.mg_of X G a5, F_law_pick := fun_mk (st := s_law_pick) l5 c5 k5, b_law_pick := (fun_mk (st := s_law_pick) l5 c5 k5).binds fun _ _ _ _ _ _ us hl => match us, hl with | [_, _], _ => rfl, a_is_tuple := f6, d_is_tuple := _, g_is_tuple := PySem.W.mg_of X G a6, F_is_tuple := fun_mk (st := s_is_tuple) l6 c6 k6, b_is_tuple := (fun_mk (st := s_is_tuple) l6 c6 k6).binds fun _ _ _ _ _ _ us hl => match us, hl with | [_, _, _], _ => rfl, a_is_integer := f7, d_is_integer := _, g_is_integer := PySem.W.mg_of X G a7, F_is_integer := fun_mk (st := s_is_integer) l7 c7 k7, b_is_integer := (fun_mk (st := s_is_integer) l7 c7 k7).binds fun _ _ _ _ _ _ us hl => match us, hl with | [_, _, _], _ => rfl, a_is_heap := f8, d_is_heap := _, g_is_heap := PySem.W.mg_of X G a8, F_is_heap := fun_mk (st := s_is_heap) l8 c8 k8, b_is_heap := (fun_mk (st := s_is_heap) l8 c8 k8).binds fun _ _ _ _ _ _ us hl => match us, hl with | [_, _], _ => rfl, a_sums_of := f9, d_sums_of := _, g_sums_of := PySem.W.mg_of X G a9, F_sums_of := fun_mk (st := s_sums_of) l9 c9 k9, b_sums_of := (fun_mk (st := s_sums_of) l9 c9 k9).binds fun _ _ _ _ _ _ us hl => match us, hl with | [_, _], _ => rfl, a_law_sums := f10, d_law_sums := _, g_law_sums := PySem.W.mg_of X G a10, F_law_sums := fun_mk (st := s_law_sums) l10 c10 k10, b_law_sums := (fun_mk (st := s_law_sums) l10 c10 k10).binds fun _ _ _ _ _ _ us hl => match us, hl with | [_, _], _ => rfl, a_law := fa, d_law := _, g_law := PySem.W.mg_of X G a11, F_law := fun_mk (st := s_law) l11 c11 k11, b_law := (fun_mk (st := s_law) l11 c11 k11).binds fun _ _ _ _ _ _ us hl => match us, hl with | [_], _ => rfl }⟩
end BH.K01
open PySem PySem.W PyProof.Rows
set_option maxRecDepth 100000 in
set_option maxHeartbeats 0 in
theorem PySem.Challenge.cw_barterheaps_k01_heaps_and_sums_holds : PySem.Challenge.rw_barterheaps_k01_heaps_and_sums.Holds := by
  w_on; o_law; k_head; (case hw => w_witness2)
  k_fill
  refine BH.walk_data (l := PySem.Challenge.rw_barterheaps_k01_heaps_and_sums) (n := 63) (k := 4) (x := "script") (F := BH.K01.F_law) rfl (by decide) rfl ⟨rfl, by decide, by decide⟩ (fun w h Y => PySem.W.kIn_of Y) ?F BH.K01.the_law
  case F =>
    intro w mg fa h KX G hmg
    refine' BH.K01.all_mk KX G hmg ?a0 ?l0 ?c0 ?k0 ?a1 ?l1 ?c1 ?k1 ?a2 ?l2 ?c2 ?k2 ?a3 ?l3 ?c3 ?k3 ?a4 ?l4 ?c4 ?k4 ?a5 ?l5 ?c5 ?k5 ?a6 ?l6 ?c6 ?k6 ?a7 ?l7 ?c7 ?k7 ?a8 ?l8 ?c8 ?k8 ?a9 ?l9 ?c9 ?k9 ?a10 ?l10 ?c10 ?k10 ?a11 ?l11 ?c11 ?k11 ?v_MAX_COUNT ?z_len ?z_abs ?z_int ?z_list ?z_range ?z_zip ?z_tuple ?z_sum ?z_isinstance ?z_bool ?z_all ?z_repr
    (case a0 => k_is)
    (case l0 => k_is)
    (case c0 => k_is)
    (case k0 => k_is)
    (case a1 => k_is)
    (case l1 => k_is)
    (case c1 => k_is)
    (case k1 => k_is)
    (case a2 => k_is)
    (case l2 => k_is)
    (case c2 => k_is)
    (case k2 => k_is)
    (case a3 => k_is)
    (case l3 => k_is)
    (case c3 => k_is)
    (case k3 => k_is)
    (case a4 => k_is)
    (case l4 => k_is)
    (case c4 => k_is)
    (case k4 => k_is)
    (case a5 => k_is)
    (case l5 => k_is)
    (case c5 => k_is)
    (case k5 => k_is)
    (case a6 => k_is)
    (case l6 => k_is)
    (case c6 => k_is)
    (case k6 => k_is)
    (case a7 => k_is)
    (case l7 => k_is)
    (case c7 => k_is)
    (case k7 => k_is)
    (case a8 => k_is)
    (case l8 => k_is)
    (case c8 => k_is)
    (case k8 => k_is)
    (case a9 => k_is)
    (case l9 => k_is)
    (case c9 => k_is)
    (case k9 => k_is)
    (case a10 => k_is)
    (case l10 => k_is)
    (case c10 => k_is)
    (case k10 => k_is)
    (case a11 => k_is)
    (case l11 => k_is)
    (case c11 => k_is)
    (case k11 => k_is)
    (case v_MAX_COUNT => k_is)
    (case z_len => k_is)
    (case z_abs => k_is)
    (case z_int => k_is)
    (case z_list => k_is)
    (case z_range => k_is)
    (case z_zip => k_is)
    (case z_tuple => k_is)
    (case z_sum => k_is)
    (case z_isinstance => k_is)
    (case z_bool => k_is)
    (case z_all => k_is)
    (case z_repr => k_is)

