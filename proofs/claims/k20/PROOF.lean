import PyProof.Rows.All
import Wide.All
import OpenK.AllK
import Wide.FinOn
import HandS.ForMost
import HandS.Exc
import HandS.TryOnly
import HandS.ExcOwn
import HandS.ExcInit
import HandS.TryMany
import HandS.WordsExc
import HandS.Wide
import HandS.Flow
import HandS.Zip
import HandS.TupAny
import HandS.Conv
import KE.SortData
import KE.DataAny
import KE.DataIsa
import KE.DataFind
import KE.DataEq
import KE.DataCmp
import KE.DataMinMax
import PyProof.Rows.ReprR
import HandS.Style
import HandS.Words
import HandS.Ends
import KE.GoesZip
import KE.GoesMore
import KE.GoesEnum
import PyProof.ReprLen
import PySem.Challenge.RW_barterheaps_k20_rows_kept
set_option Elab.async false
set_option linter.all false
set_option maxRecDepth 100000
set_option maxHeartbeats 1000000
namespace BH
open PySem PySem.Spec PyProof.Rows L2

/-- a set of addresses -/
abbrev AS := Addr → Prop

/-- a list of the written part -/
def KL (K : PySem.W.Frag) (a : Addr) (vs : List V) : Prop := ∀ H : Hp, SqL K H a vs
/-- a list that no one changes -/
def LsD (K : PySem.W.Frag) (A : AS) (H : Hp) (a : Addr) (vs : List V) : Prop := (¬ A a ∧ Rd H a (.lst vs)) ∨ KL K a vs
theorem LsD.sq {K : PySem.W.Frag} {A : AS} {H : Hp} {a : Addr} {vs : List V} (h : LsD K A H a vs) : SqL K H a vs := by
  rcases h with ⟨_, h⟩ | h
  · exact .inl h
  · exact h H

mutual
/-- the value denotes the data, off the addresses in A -/
def Dv (K : PySem.W.Frag) (A : AS) (H : Hp) : PyData → V → Prop
  | .none, v => v = .non
  | .bool b, v => v = .bl b
  | .int i, v => v = .int i
  | .str x, v => v = .str x
  | .tuple ds, v => ∃ a vs, v = .ref a ∧ SqT K H a vs ∧ Dvs K A H ds vs
  | .list ds, v => ∃ a vs, v = .ref a ∧ LsD K A H a vs ∧ Dvs K A H ds vs
  | .dict kvs, v => kvs = [] ∧ ∃ a, v = .ref a ∧ ¬ A a ∧ H a = some (.dK [])
def Dvs (K : PySem.W.Frag) (A : AS) (H : Hp) : List PyData → List V → Prop
  | [], vs => vs = []
  | d :: ds, vs => ∃ v r, vs = v :: r ∧ Dv K A H d v ∧ Dvs K A H ds r
end

/-- what one step may change: the objects at O alone -/
structure Ext (O A : AS) (H : Hp) (A' : AS) (H' : Hp) : Prop where
  keep : ∀ a o, H a = some o → ¬ O a → H' a = some o
  tup : ∀ a vs, H a = some (.tup vs) → H' a = some (.tup vs)
  frz : ∀ a ob o, H a = some (.frz ob o) → H' a = some (.frz ob o)
  dom : ∀ a, H a ≠ none → H' a ≠ none
  av1 : ∀ a, A a → ¬ O a → A' a
  av2 : ∀ a, A' a → A a ∨ H a = none

theorem Ext.refl (O A : AS) (H : Hp) : Ext O A H A H :=
  ⟨fun _ _ h _ => h, fun _ _ h => h, fun _ _ _ h => h, fun _ h => h, fun _ h _ => h, fun _ h => .inl h⟩

theorem none_of_dom {H H' : Hp} (h : ∀ a, H a ≠ none → H' a ≠ none) {a : Addr} (q : H' a = none) : H a = none := by
  cases e : H a with
  | none => rfl
  | some o => exact absurd q (h a (by rw [e]; simp))

theorem Ext.trans {O1 O2 A A1 A2 : AS} {H H1 H2 : Hp} (a : Ext O1 A H A1 H1) (b : Ext O2 A1 H1 A2 H2) (hO : ∀ x, O2 x → O1 x ∨ H x = none)
    (hA : ∀ x, A x → H x ≠ none) : Ext O1 A H A2 H2 where
  keep := fun x o h n => b.keep x o (a.keep x o h n) fun z => by
    rcases hO x z with q | q
    · exact n q
    · rw [h] at q; cases q
  tup := fun x vs h => b.tup x vs (a.tup x vs h)
  frz := fun x ob o h => b.frz x ob o (a.frz x ob o h)
  dom := fun x h => b.dom x (a.dom x h)
  av1 := fun x h n => b.av1 x (a.av1 x h n) fun z => by
    rcases hO x z with q | q
    · exact n q
    · exact hA x h q
  av2 := fun x h => by
    rcases b.av2 x h with q | q
    · exact a.av2 x q
    · exact .inr (none_of_dom a.dom q)

section
variable {K : PySem.W.Frag} {O A A' : AS} {H H' : Hp}
theorem sqt_ext (h : ∀ a vs, H a = some (.tup vs) → H' a = some (.tup vs)) (hf : ∀ a ob o, H a = some (.frz ob o) → H' a = some (.frz ob o)) {a : Addr} {vs : List V} (q : SqT K H a vs) : SqT K H' a vs := by
  rcases q with (q | ⟨o, q⟩) | q
  · exact .inl (.inl (h _ _ q))
  · exact .inl (.inr ⟨o, hf _ _ _ q⟩)
  · exact .inr q
theorem Ext.rd (e : Ext O A H A' H') (hO : ∀ a, O a → A a) {a : Addr} {vs : List V} (n : ¬ O a) (q : Rd H a (.lst vs)) : Rd H' a (.lst vs) := by
  rcases q with q | ⟨o, q⟩
  · exact .inl (e.keep _ _ q n)
  · exact .inr ⟨o, e.frz _ _ _ q⟩
theorem rd_some {H : Hp} {a : Addr} {u : HO} (q : Rd H a u) : H a ≠ none := by
  rcases q with q | ⟨o, q⟩ <;> rw [q] <;> simp

mutual
theorem Dv.ext (e : Ext O A H A' H') (hO : ∀ a, O a → A a) : ∀ (d : PyData) (v : V), Dv K A H d v → Dv K A' H' d v
  | .none, v, h => by simp only [Dv] at h ⊢; exact h
  | .bool b, v, h => by simp only [Dv] at h ⊢; exact h
  | .int i, v, h => by simp only [Dv] at h ⊢; exact h
  | .str x, v, h => by simp only [Dv] at h ⊢; exact h
  | .tuple ds, v, h => by
    simp only [Dv] at h ⊢
    obtain ⟨a, vs, rfl, q, r⟩ := h
    exact ⟨a, vs, rfl, sqt_ext e.tup e.frz q, Dvs.ext e hO ds vs r⟩
  | .list ds, v, h => by
    simp only [Dv] at h ⊢
    obtain ⟨a, vs, rfl, q, r⟩ := h
    refine ⟨a, vs, rfl, ?_, Dvs.ext e hO ds vs r⟩
    rcases q with ⟨n, q⟩ | q
    · refine .inl ⟨fun z => ?_, e.rd hO (fun z => n (hO a z)) q⟩
      rcases e.av2 a z with y | y
      · exact n y
      · exact rd_some q y
    · exact .inr q
  | .dict kvs, v, h => by
    simp only [Dv] at h ⊢
    obtain ⟨rfl, a, rfl, n, q⟩ := h
    refine ⟨rfl, a, rfl, fun z => ?_, e.keep _ _ q (fun z => n (hO a z))⟩
    rcases e.av2 a z with y | y
    · exact n y
    · rw [q] at y; cases y
theorem Dvs.ext (e : Ext O A H A' H') (hO : ∀ a, O a → A a) : ∀ (ds : List PyData) (vs : List V), Dvs K A H ds vs → Dvs K A' H' ds vs
  | [], vs, h => by simp only [Dvs] at h ⊢; exact h
  | d :: ds, vs, h => by
    simp only [Dvs] at h ⊢
    obtain ⟨v, r, rfl, q, t⟩ := h
    exact ⟨v, r, rfl, Dv.ext e hO d v q, Dvs.ext e hO ds r t⟩
end

mutual
/-- fewer addresses to avoid -/
theorem Dv.less (hA : ∀ a, A' a → A a) : ∀ (d : PyData) (v : V), Dv K A H d v → Dv K A' H d v
  | .none, v, h => by simp only [Dv] at h ⊢; exact h
  | .bool b, v, h => by simp only [Dv] at h ⊢; exact h
  | .int i, v, h => by simp only [Dv] at h ⊢; exact h
  | .str x, v, h => by simp only [Dv] at h ⊢; exact h
  | .tuple ds, v, h => by
    simp only [Dv] at h ⊢
    obtain ⟨a, vs, rfl, q, r⟩ := h
    exact ⟨a, vs, rfl, q, Dvs.less hA ds vs r⟩
  | .list ds, v, h => by
    simp only [Dv] at h ⊢
    obtain ⟨a, vs, rfl, q, r⟩ := h
    refine ⟨a, vs, rfl, ?_, Dvs.less hA ds vs r⟩
    rcases q with ⟨n, q⟩ | q
    · exact .inl ⟨fun z => n (hA a z), q⟩
    · exact .inr q
  | .dict kvs, v, h => by
    simp only [Dv] at h ⊢
    obtain ⟨rfl, a, rfl, n, q⟩ := h
    exact ⟨rfl, a, rfl, fun z => n (hA a z), q⟩
theorem Dvs.less (hA : ∀ a, A' a → A a) : ∀ (ds : List PyData) (vs : List V), Dvs K A H ds vs → Dvs K A' H ds vs
  | [], vs, h => by simp only [Dvs] at h ⊢; exact h
  | d :: ds, vs, h => by
    simp only [Dvs] at h ⊢
    obtain ⟨v, r, rfl, q, t⟩ := h
    exact ⟨v, r, rfl, Dv.less hA d v q, Dvs.less hA ds r t⟩
end

theorem Dvs.length : ∀ {ds : List PyData} {vs : List V}, Dvs K A H ds vs → ds.length = vs.length
  | [], vs, h => by simp only [Dvs] at h; subst h; rfl
  | d :: ds, vs, h => by
    simp only [Dvs] at h
    obtain ⟨v, r, rfl, _, t⟩ := h
    simp [Dvs.length t]
theorem Dvs.get : ∀ {ds : List PyData} {vs : List V} {i : Nat} {v : V}, Dvs K A H ds vs → vs[i]? = some v → ∃ d, ds[i]? = some d ∧ Dv K A H d v
  | [], vs, i, v, h, e => by simp only [Dvs] at h; subst h; simp at e
  | d :: ds, vs, i, v, h, e => by
    simp only [Dvs] at h
    obtain ⟨v', r, rfl, q, t⟩ := h
    cases i with
    | zero => simp at e; subst e; exact ⟨d, by simp, q⟩
    | succ i =>
      obtain ⟨d', e1, e2⟩ := Dvs.get (i := i) (v := v) t (by simpa using e)
      exact ⟨d', by simpa using e1, e2⟩
theorem Dvs.getD : ∀ {ds : List PyData} {vs : List V} {i : Nat} {d : PyData}, Dvs K A H ds vs → ds[i]? = some d → ∃ v, vs[i]? = some v ∧ Dv K A H d v
  | [], vs, i, d, h, e => by simp at e
  | d' :: ds, vs, i, d, h, e => by
    simp only [Dvs] at h
    obtain ⟨v', r, rfl, q, t⟩ := h
    cases i with
    | zero => simp at e; subst e; exact ⟨v', by simp, q⟩
    | succ i =>
      obtain ⟨v, e1, e2⟩ := Dvs.getD (i := i) (d := d) t (by simpa using e)
      exact ⟨v, by simpa using e1, e2⟩
theorem Dvs.append : ∀ {ds es : List PyData} {vs ws : List V}, Dvs K A H ds vs → Dvs K A H es ws → Dvs K A H (ds ++ es) (vs ++ ws)
  | [], es, vs, ws, h, t => by simp only [Dvs] at h; subst h; simpa using t
  | d :: ds, es, vs, ws, h, t => by
    simp only [Dvs] at h
    obtain ⟨v, r, rfl, q, u⟩ := h
    simp only [List.cons_append, Dvs]
    exact ⟨v, r ++ ws, rfl, q, Dvs.append u t⟩
theorem Dvs.one {d : PyData} {v : V} (h : Dv K A H d v) : Dvs K A H [d] [v] := by
  simp only [Dvs]; exact ⟨v, [], rfl, h, rfl⟩
theorem Dvs.nil : Dvs K A H [] [] := by simp only [Dvs]
theorem Dvs.cons {d : PyData} {v : V} {ds : List PyData} {vs : List V} (h : Dv K A H d v) (t : Dvs K A H ds vs) : Dvs K A H (d :: ds) (v :: vs) := by
  simp only [Dvs]; exact ⟨v, vs, rfl, h, t⟩
theorem Dvs.take : ∀ {ds : List PyData} {vs : List V} (n : Nat), Dvs K A H ds vs → Dvs K A H (ds.take n) (vs.take n)
  | [], vs, n, h => by simp only [Dvs] at h; subst h; simp [Dvs]
  | d :: ds, vs, 0, h => by simp [Dvs]
  | d :: ds, vs, n + 1, h => by
    simp only [Dvs] at h
    obtain ⟨v, r, rfl, q, u⟩ := h
    simp only [List.take_succ_cons]
    exact .cons q (Dvs.take n u)
theorem Dvs.drop : ∀ {ds : List PyData} {vs : List V} (n : Nat), Dvs K A H ds vs → Dvs K A H (ds.drop n) (vs.drop n)
  | [], vs, n, h => by simp only [Dvs] at h; subst h; simp [Dvs]
  | d :: ds, vs, 0, h => by simpa using h
  | d :: ds, vs, n + 1, h => by
    simp only [Dvs] at h
    obtain ⟨v, r, rfl, q, u⟩ := h
    simp only [List.drop_succ_cons]
    exact Dvs.drop n u
theorem Dvs.set {d : PyData} {v : V} (q : Dv K A H d v) : ∀ {ds : List PyData} {vs : List V} (i : Nat), Dvs K A H ds vs → Dvs K A H (ds.set i d) (vs.set i v)
  | [], vs, n, h => by simp only [Dvs] at h; subst h; simp [Dvs]
  | e :: ds, vs, 0, h => by
    simp only [Dvs] at h
    obtain ⟨w, r, rfl, _, u⟩ := h
    exact .cons q u
  | e :: ds, vs, n + 1, h => by
    simp only [Dvs] at h
    obtain ⟨w, r, rfl, q', u⟩ := h
    simp only [List.set_cons_succ]
    exact .cons q' (Dvs.set q n u)
end
end BH

set_option maxRecDepth 100000
set_option maxHeartbeats 1000000
namespace BH
open PySem PySem.Spec PyProof.Rows L2

/-- what stands in an owned object -/
inductive Cell where
  | lst (xs : List PyData)
  | dic (kvs : List (PyData × PyData))
  | ins (C : String) (fs : List (String × PyData))
inductive Mode where
  | own | bor | lock
inductive MV where
  | d (x : PyData)
  | cell (m : Mode) (c : Cell)
abbrev SE := List (Option MV)
/-- an expression's result: data, a new owned object, or what stands in a slot -/
inductive RV where
  | d (x : PyData)
  | tmp (c : Cell)
  | slot (i : Nat)

def CellR (K : PySem.W.Frag) (A : AS) (H : Hp) : Cell → Addr → Prop
  | .lst xs, a => ∃ vs, H a = some (.lst vs) ∧ Dvs K A H xs vs
  | .dic _, _ => False
  | .ins _ _, _ => False

/-- a state of a def -/
structure G where
  A : AS
  H : Hp
  st : L2.St
  env : SE

def Own (g : G) : AS := fun a => ∃ (i : Nat) (m : Mode) (c : Cell), g.env[i]? = some (some (.cell m c)) ∧ m ≠ .lock ∧ g.st[i]? = some (some (.ref a))

/-- the owned objects of all slots, locked ones too -/
def Has (g : G) : AS := fun a => ∃ (i : Nat) (m : Mode) (c : Cell), g.env[i]? = some (some (.cell m c)) ∧ g.st[i]? = some (some (.ref a))

structure G.Ok (K : PySem.W.Frag) (g : G) : Prop where
  len : g.st.length = g.env.length
  dat : ∀ (i : Nat) x, g.env[i]? = some (some (.d x)) → ∃ v, g.st[i]? = some (some v) ∧ Dv K g.A g.H x v
  cel : ∀ (i : Nat) m c, g.env[i]? = some (some (.cell m c)) → ∃ a, g.st[i]? = some (some (.ref a)) ∧ g.A a ∧ CellR K g.A g.H c a
  dis : ∀ (i j : Nat) m c m' c' a, g.env[i]? = some (some (.cell m c)) → g.env[j]? = some (some (.cell m' c')) → g.st[i]? = some (some (.ref a)) → g.st[j]? = some (some (.ref a)) → i = j
  dom : ∀ a, g.A a → g.H a ≠ none

theorem Own.sub {K : PySem.W.Frag} {g : G} (ok : g.Ok K) : ∀ a, Own g a → g.A a := fun a ⟨i, m, c, h1, _, h2⟩ => by
  obtain ⟨b, h3, h4, _⟩ := ok.cel i m c h1
  rw [h2] at h3; cases h3; exact h4

structure Stp (g g' : G) : Prop where
  ext : Ext (Own g) g.A g.H g'.A g'.H
  own : ∀ a, Own g' a → Own g a ∨ g.H a = none
  has : ∀ a, Has g' a → Has g a ∨ g.H a = none
  bor : ∀ (i : Nat) c, g.env[i]? = some (some (.cell .bor c)) → g'.st[i]? = g.st[i]? ∧ ∃ c', g'.env[i]? = some (some (.cell .bor c'))
  lck : ∀ (i : Nat) c, g.env[i]? = some (some (.cell .lock c)) → g'.st[i]? = g.st[i]? ∧ g'.env[i]? = some (some (.cell .lock c))

theorem Stp.refl (g : G) : Stp g g := ⟨.refl _ _ _, fun _ h => .inl h, fun _ h => .inl h, fun i c h => ⟨rfl, c, h⟩, fun i c h => ⟨rfl, h⟩⟩
theorem Stp.trans {K : PySem.W.Frag} {g g1 g2 : G} (ok : g.Ok K) (a : Stp g g1) (b : Stp g1 g2) : Stp g g2 where
  ext := a.ext.trans b.ext a.own ok.dom
  own := fun x h => by
    rcases b.own x h with q | q
    · exact a.own x q
    · exact .inr (none_of_dom a.ext.dom q)
  has := fun x h => by
    rcases b.has x h with q | q
    · exact a.has x q
    · exact .inr (none_of_dom a.ext.dom q)
  bor := fun i c h => by
    obtain ⟨e1, c1, h1⟩ := a.bor i c h
    obtain ⟨e2, c2, h2⟩ := b.bor i c1 h1
    exact ⟨e2.trans e1, c2, h2⟩
  lck := fun i c h => by
    obtain ⟨e1, h1⟩ := a.lck i c h
    obtain ⟨e2, h2⟩ := b.lck i c h1
    exact ⟨e2.trans e1, h2⟩
theorem Stp.dv {K : PySem.W.Frag} {g g' : G} (ok : g.Ok K) (s : Stp g g') {x : PyData} {v : V} (h : Dv K g.A g.H x v) : Dv K g'.A g'.H x v := Dv.ext s.ext (Own.sub ok) x v h
theorem Stp.dvs {K : PySem.W.Frag} {g g' : G} (ok : g.Ok K) (s : Stp g g') {x : List PyData} {v : List V} (h : Dvs K g.A g.H x v) : Dvs K g'.A g'.H x v := Dvs.ext s.ext (Own.sub ok) x v h

/-- the result v of an expression that began at the heap H0 -/
def RVR (K : PySem.W.Frag) (H0 : Hp) (g : G) : RV → V → Prop
  | .d x, v => Dv K g.A g.H x v
  | .tmp c, v => ∃ a, v = .ref a ∧ g.A a ∧ CellR K g.A g.H c a ∧ H0 a = none ∧ ¬ Has g a
  | .slot i, v => g.st[i]? = some (some v)

def Cell.data : Cell → Option PyData
  | .lst xs => some (.list xs)
  | .dic _ => none
  | .ins _ _ => none
def MV.data : MV → Option PyData
  | .d x => some x
  | .cell _ c => c.data
/-- as data, to be read -/
def RV.view : RV → SE → Option PyData
  | .d x, _ => some x
  | .tmp c, _ => c.data
  | .slot i, env => match env[i]? with
    | some (some mv) => mv.data
    | _ => none

/-- data that is read here and now: its outermost list may be an owned one -/
def Dw (K : PySem.W.Frag) (A : AS) (H : Hp) : PyData → V → Prop
  | .list ds, v => ∃ a vs, v = .ref a ∧ SqL K H a vs ∧ Dvs K A H ds vs
  | d, v => Dv K A H d v
theorem Dw.of {K : PySem.W.Frag} {A : AS} {H : Hp} {d : PyData} {v : V} (h : Dv K A H d v) : Dw K A H d v := by
  cases d with
  | list ds =>
    simp only [Dv] at h
    obtain ⟨a, vs, e, q, r⟩ := h
    exact ⟨a, vs, e, q.sq, r⟩
  | _ => exact h
theorem CellR.dw {K : PySem.W.Frag} {A : AS} {H : Hp} {c : Cell} {a : Addr} {x : PyData} (h : CellR K A H c a) (e : c.data = some x) : Dw K A H x (.ref a) := by
  cases c with
  | lst xs =>
    simp only [Cell.data, Option.some.injEq] at e
    subst e
    obtain ⟨vs, q, r⟩ := h
    exact ⟨a, vs, rfl, .inl (.inl q), r⟩
  | _ => simp [Cell.data] at e
theorem CellR.some {K : PySem.W.Frag} {A : AS} {H : Hp} {c : Cell} {a : Addr} (h : CellR K A H c a) : H a ≠ none := by
  cases c with
  | lst xs => obtain ⟨vs, q, r⟩ := h; rw [q]; simp
  | _ => exact h.elim
theorem RVR.dw {K : PySem.W.Frag} {H0 : Hp} {g : G} {r : RV} {v : V} {x : PyData} (ok : g.Ok K) (h : RVR K H0 g r v) (e : r.view g.env = some x) : Dw K g.A g.H x v := by
  cases r with
  | d y => simp only [RV.view, Option.some.injEq] at e; subst e; exact .of h
  | tmp c =>
    obtain ⟨a, rfl, _, h, _⟩ := h
    exact h.dw e
  | slot i =>
    have h1 : g.st[i]? = some (some v) := h
    cases h2 : g.env[i]? with
    | none => simp [RV.view, h2] at e
    | some o => cases o with
      | none => simp [RV.view, h2] at e
      | some mv =>
        simp only [RV.view, h2] at e
        cases mv with
        | d y =>
          simp only [MV.data, Option.some.injEq] at e; subst e
          obtain ⟨w, q1, q2⟩ := ok.dat i y h2
          rw [h1] at q1; cases q1
          exact .of q2
        | cell m c =>
          obtain ⟨a, q1, _, q2⟩ := ok.cel i m c h2
          rw [h1] at q1; cases q1
          exact q2.dw e
/-- a result is held over a further step -/
theorem RVR.step {K : PySem.W.Frag} {H0 : Hp} {g g' : G} {r : RV} {v : V} (ok : g.Ok K) (h : RVR K H0 g r v) (s : Stp g g') (e : g'.st = g.st) : RVR K H0 g' r v := by
  cases r with
  | d y => exact s.dv ok h
  | tmp c =>
    obtain ⟨a, h1, h2, h3, h4, h5⟩ := h
    have no : ¬ Own g a := fun ⟨i, m, c', q1, _, q2⟩ => h5 ⟨i, m, c', q1, q2⟩
    refine ⟨a, h1, s.ext.av1 a h2 no, ?_, h4, fun z => ?_⟩
    · cases c with
      | lst xs => obtain ⟨vs, q, r⟩ := h3; exact ⟨vs, s.ext.keep _ _ q no, s.dvs ok r⟩
      | _ => exact h3.elim
    · rcases s.has a z with q | q
      · exact h5 q
      · exact h3.some q
  | slot i => show g'.st[i]? = _; rw [e]; exact h

/-- outcome of a reading -/
inductive Res (α : Type) where
  | ok (x : α)
  | exc (c : String) (fs : List (String × PyData)) (env : SE)
  | fail
def Res.bind {α β : Type} : Res α → (α → Res β) → Res β
  | .ok x, f => f x
  | .exc c fs env, _ => .exc c fs env
  | .fail, _ => .fail

abbrev EF := SE → Res (RV × SE)

/-- an exception of the program's class c -/
def ExcR (X : Cx) (g : G) (c : String) (fs : List (String × PyData)) (cls : Value) (d : Option Addr) : Prop :=
  ∃ C, cls = .ref C ∧ X.mg (Str.ofString c) = some (.ref C) ∧
    ((fs = [] ∧ d = none) ∨ ∃ dd vs, d = some dd ∧ g.H dd = some (.xd vs) ∧ fs.length = vs.length ∧
      ∀ (i : Nat) n x, fs[i]? = some (n, x) → ∃ v, vs[i]? = some (Str.ofString n, v) ∧ Dv X.K g.A g.H x v)

/-- what is to follow an outcome -/
def Out {α : Type} (X : Cx) (W : WX) (g : G) (r : Res (α × SE)) (P : G → α → Prop) : Prop :=
  match r with
  | .ok (x, env') => ∀ g' : G, g'.env = env' → g'.st = g.st → Stp g g' → g'.Ok X.K → P g' x
  | .exc c fs env' => ∀ (g' : G) cls d, g'.env = env' → g'.st = g.st → Stp g g' → g'.Ok X.K → ExcR X g' c fs cls d → W cls d g.st g'.H
  | .fail => False

def tE (X : Cx) (W : WX) (f : EF) : TE := fun σ H Q => ∃ g : G, g.st = σ ∧ g.H = H ∧ g.Ok X.K ∧ Out X W g (f g.env) fun g' rv => ∀ v, RVR X.K g.H g' rv v → Q v g'.H
structure FE (X : Cx) (e : Expr) (f : EF) : Prop where
  pe : ∀ W, Takes X W → PE X e (tE X W f)

theorem Out.imp {α : Type} {X : Cx} {W : WX} {g : G} {r : Res (α × SE)} {P P' : G → α → Prop} (h : Out X W g r P) (hP : ∀ g' x, Stp g g' → g'.st = g.st → g'.Ok X.K → P g' x → P' g' x) : Out X W g r P' := by
  cases r with
  | ok y => obtain ⟨x, env'⟩ := y; exact fun g' e1 e2 s o => hP g' x s e2 o (h g' e1 e2 s o)
  | exc c fs env' => exact h
  | fail => exact h
/-- one step after another -/
theorem Out.bind {α β : Type} {X : Cx} {W : WX} {g : G} {r : Res (α × SE)} {k : α × SE → Res (β × SE)} {P : G → β → Prop} (ok : g.Ok X.K) (h : Out X W g (r.bind k) P) :
    Out X W g r fun g1 x => Out X W g1 (k (x, g1.env)) P := by
  cases r with
  | ok y =>
    obtain ⟨x, env'⟩ := y
    intro g1 e1 e2 s1 o1
    have h : Out X W g (k (x, env')) P := h
    rw [← e1] at h
    cases hk : k (x, g1.env) with
    | ok z =>
      rw [hk] at h
      obtain ⟨y, env2⟩ := z
      intro g2 e3 e4 s2 o2
      exact h g2 e3 (e4.trans e2) (s1.trans ok s2) o2
    | exc c fs env2 =>
      rw [hk] at h
      intro g2 cls d e3 e4 s2 o2 x2
      have := h g2 cls d e3 (e4.trans e2) (s1.trans ok s2) o2 x2
      rw [e2]; exact this
    | fail => rw [hk] at h; exact h
  | exc c fs env' => exact h
  | fail => exact h
/-- run a part -/
theorem FE.go {X : Cx} {e : Expr} {f : EF} (h : FE X e f) {W : WX} (tk : Takes X W) {g : G} (ok : g.Ok X.K) {pins : List (Addr × Obj)} {s : Shared} (I : Inv X pins g.st g.H s) {P : G → RV → Prop} (o : Out X W g (f g.env) P)
    {Q : Value → Shared → Prop} (hQ : ∀ u s' g' rv v, g'.st = g.st → Inv X pins g'.st g'.H s' → RelV v u → g'.Ok X.K → Stp g g' → RVR X.K g.H g' rv v → P g' rv → Q u s') :
    wpAny (model X.prog X.w) X.A (eval e X.env) Q X.xe s := by
  refine thn ((h.pe W tk).run pins s g.st g.H (fun v H' => ∃ g' rv, g'.H = H' ∧ g'.st = g.st ∧ g'.Ok X.K ∧ Stp g g' ∧ RVR X.K g.H g' rv v ∧ P g' rv) I ⟨g, rfl, rfl, ok, o.imp fun g' x st e o p v r => ⟨g', x, rfl, e, o, st, r, p⟩⟩) ?_
  rintro u s' ⟨v, H', I', r, g', rv, rfl, e, o', st, rr, p⟩
  exact hQ u s' g' rv v e (e ▸ I') r o' st rr p
/-- a whole result -/
theorem fe_mk {X : Cx} {e : Expr} {f : EF} (h : ∀ W, Takes X W → ∀ (g : G) (pins : List (Addr × Obj)) (s : Shared) (P : G → RV → Prop), g.Ok X.K → Inv X pins g.st g.H s → Out X W g (f g.env) P →
    wpAny (model X.prog X.w) X.A (eval e X.env) (fun u s' => ∃ v g' rv, Inv X pins g.st g'.H s' ∧ RelV v u ∧ RVR X.K g.H g' rv v ∧ P g' rv) X.xe s) : FE X e f := by
  refine ⟨fun W tk => ⟨fun pins s σ H Q I hq => ?_⟩⟩
  obtain ⟨g, rfl, rfl, ok, o⟩ := hq
  exact thn (h W tk g pins s _ ok I o) fun u s' ⟨v, g', rv, I', r, rr, p⟩ => ⟨v, g'.H, I', r, p v rr⟩
end BH

set_option maxRecDepth 100000
set_option maxHeartbeats 1000000
namespace BH
open PySem PySem.Spec PyProof.Rows L2

/-- the most items of a list, a tuple -/
def lim : Nat := 16777216
theorem lim_line : lim = sizeLine := by rw [sizeLine_eq]; rfl

section
variable {X : Cx} {W : WX} {α β : Type}
theorem Out.bind0 {g : G} {r : Res (α × SE)} {k : α × SE → Res (β × SE)} {P : G → β → Prop} (h : Out X W g (r.bind k) P) :
    Out X W g r fun g1 x => Out X W g (k (x, g1.env)) P := by
  cases r with
  | ok y =>
    obtain ⟨x, env'⟩ := y
    intro g1 e1 e2 s1 o1
    rw [e1]
    exact h
  | exc c fs env' => exact h
  | fail => exact h
theorem Out.rebase {g g1 : G} {r : Res (α × SE)} {P : G → α → Prop} (ok : g.Ok X.K) (s : Stp g g1) (e : g1.st = g.st) (h : Out X W g r P) : Out X W g1 r P := by
  cases r with
  | ok y => obtain ⟨x, env'⟩ := y; exact fun g2 e1 e2 s2 o2 => h g2 e1 (e2.trans e) (s.trans ok s2) o2
  | exc c fs env' =>
    intro g2 cls d e1 e2 s2 o2 x2
    rw [e]
    exact h g2 cls d e1 (e2.trans e) (s.trans ok s2) o2 x2
  | fail => exact h
end

/-- the address is no longer to be avoided -/
def G.free (g : G) (a : Addr) : G := { g with A := fun b => g.A b ∧ b ≠ a }
theorem G.Ok.free {K : PySem.W.Frag} {g : G} {a : Addr} (ok : g.Ok K) (h : ¬ Has g a) : (g.free a).Ok K where
  len := ok.len
  dat := fun i x e => by
    obtain ⟨v, h1, h2⟩ := ok.dat i x e
    exact ⟨v, h1, Dv.less (fun _ z => z.1) x v h2⟩
  cel := fun i m c e => by
    obtain ⟨b, h1, h2, h3⟩ := ok.cel i m c e
    refine ⟨b, h1, ⟨h2, fun z => h ⟨i, m, c, e, by rw [← z]; exact h1⟩⟩, ?_⟩
    cases c with
    | lst xs => obtain ⟨vs, q, r⟩ := h3; exact ⟨vs, q, Dvs.less (fun _ z => z.1) xs vs r⟩
    | _ => exact h3
  dis := ok.dis
  dom := fun b hb => ok.dom b hb.1

/-- a slot is stored -/
theorem own_set {g : G} {i : Nat} {mv : Option MV} {st' : L2.St} {H' : Hp} {A' : AS} {a : Addr} (hst : ∀ j, j ≠ i → st'[j]? = g.st[j]?) (h : Own { A := A', H := H', st := st', env := g.env.set i mv } a) :
    Own g a ∨ ∃ m c, mv = some (.cell m c) ∧ m ≠ .lock ∧ st'[i]? = some (some (.ref a)) := by
  obtain ⟨j, m, c, h1, h2, h3⟩ := h
  by_cases e : j = i
  · subst e
    have h1 : (g.env.set j mv)[j]? = some (some (.cell m c)) := h1
    by_cases hl : j < g.env.length
    · rw [List.getElem?_set_self hl] at h1
      exact .inr ⟨m, c, Option.some.inj h1, h2, h3⟩
    · rw [List.getElem?_eq_none (by simpa using hl)] at h1; cases h1
  · have h1 : (g.env.set i mv)[j]? = some (some (.cell m c)) := h1
    rw [List.getElem?_set_ne (Ne.symm e)] at h1
    have h3 : st'[j]? = some (some (.ref a)) := h3
    rw [hst j e] at h3
    exact .inl ⟨j, m, c, h1, h2, h3⟩

theorem has_set {g : G} {i : Nat} {mv : Option MV} {st' : L2.St} {H' : Hp} {A' : AS} {a : Addr} (hst : ∀ j, j ≠ i → st'[j]? = g.st[j]?) (h : Has { A := A', H := H', st := st', env := g.env.set i mv } a) :
    Has g a ∨ ∃ m c, mv = some (.cell m c) ∧ st'[i]? = some (some (.ref a)) := by
  obtain ⟨j, m, c, h1, h3⟩ := h
  by_cases e : j = i
  · subst e
    have h1 : (g.env.set j mv)[j]? = some (some (.cell m c)) := h1
    by_cases hl : j < g.env.length
    · rw [List.getElem?_set_self hl] at h1
      exact .inr ⟨m, c, Option.some.inj h1, h3⟩
    · rw [List.getElem?_eq_none (by simpa using hl)] at h1; cases h1
  · have h1 : (g.env.set i mv)[j]? = some (some (.cell m c)) := h1
    rw [List.getElem?_set_ne (Ne.symm e)] at h1
    have h3 : st'[j]? = some (some (.ref a)) := h3
    rw [hst j e] at h3
    exact .inl ⟨j, m, c, h1, h3⟩

def RV.take : RV → SE → Option (PyData × SE)
  | .d x, env => some (x, env)
  | .tmp c, env => match c.data with
    | some x => some (x, env)
    | none => none
  | .slot i, env => match env[i]? with
    | some (some (.d x)) => some (x, env)
    | some (some (.cell .own (.lst xs))) => some (.list xs, env.set i (some (.d (.list xs))))
    | _ => none

/-- a result becomes data -/
theorem RVR.take {K : PySem.W.Frag} {g g1 : G} {r : RV} {v : V} {x : PyData} {env2 : SE} (ok : g.Ok K) (s : Stp g g1) (e : g1.st = g.st) (o1 : g1.Ok K) (h : RVR K g.H g1 r v) (ht : r.take g1.env = some (x, env2)) :
    ∃ g2 : G, g2.env = env2 ∧ g2.st = g1.st ∧ g2.H = g1.H ∧ Stp g g2 ∧ g2.Ok K ∧ Dv K g2.A g2.H x v := by
  have drop : ∀ a, (g.H a = none ∨ Own g a) → ∀ b, g.A b → ¬ Own g b → g1.A b ∧ b ≠ a := fun a ha b hb hn => ⟨s.ext.av1 b hb hn, fun z => by
    subst z
    rcases ha with q | q
    · exact ok.dom b hb q
    · exact hn q⟩
  cases r with
  | d y =>
    simp only [RV.take, Option.some.injEq, Prod.mk.injEq] at ht
    obtain ⟨rfl, rfl⟩ := ht
    exact ⟨g1, rfl, rfl, rfl, s, o1, h⟩
  | tmp c =>
    obtain ⟨a, rfl, hA, hc, hf, hs⟩ := h
    cases c with
    | lst xs =>
      simp only [RV.take, Cell.data, Option.some.injEq, Prod.mk.injEq] at ht
      obtain ⟨rfl, rfl⟩ := ht
      obtain ⟨vs, q, r⟩ := hc
      refine ⟨g1.free a, rfl, rfl, rfl, ⟨⟨s.ext.keep, s.ext.tup, s.ext.frz, s.ext.dom, drop a (.inl hf), fun b hb => s.ext.av2 b hb.1⟩, s.own, s.has, s.bor, s.lck⟩, o1.free hs, ?_⟩
      simp only [Dv]
      exact ⟨a, vs, rfl, .inl ⟨fun z => z.2 rfl, .inl q⟩, Dvs.less (fun _ z => z.1) xs vs r⟩
    | _ => simp [RV.take, Cell.data] at ht
  | slot i =>
    have h1 : g1.st[i]? = some (some v) := h
    cases h2 : g1.env[i]? with
    | none => simp [RV.take, h2] at ht
    | some ov =>
    cases ov with
    | none => simp [RV.take, h2] at ht
    | some mv =>
    cases mv with
    | d y =>
      simp only [RV.take, h2, Option.some.injEq, Prod.mk.injEq] at ht
      obtain ⟨rfl, rfl⟩ := ht
      obtain ⟨w, q1, q2⟩ := o1.dat i y h2
      rw [h1] at q1; cases q1
      exact ⟨g1, rfl, rfl, rfl, s, o1, q2⟩
    | cell m c =>
      cases m with
      | own =>
        cases c with
        | lst xs =>
          simp only [RV.take, h2, Option.some.injEq, Prod.mk.injEq] at ht
          obtain ⟨rfl, rfl⟩ := ht
          obtain ⟨a, q1, q2, vs, q3, q4⟩ := o1.cel i _ _ h2
          rw [h1] at q1; cases q1
          have hil : i < g1.env.length := (List.getElem?_eq_some_iff.mp h2).1
          have own1 : Own g1 a := ⟨i, .own, _, h2, by simp, h1⟩
          have hdv : Dv K (fun b => g1.A b ∧ b ≠ a) g1.H (.list xs) (.ref a) := by
            simp only [Dv]
            exact ⟨a, vs, rfl, .inl ⟨fun z => z.2 rfl, .inl q3⟩, Dvs.less (fun _ z => z.1) xs vs q4⟩
          refine ⟨{ A := fun b => g1.A b ∧ b ≠ a, H := g1.H, st := g1.st, env := g1.env.set i (some (.d (.list xs))) }, rfl, rfl, rfl,
            ⟨⟨s.ext.keep, s.ext.tup, s.ext.frz, s.ext.dom, drop a ((s.own a own1).symm), fun b hb => s.ext.av2 b hb.1⟩, fun b hb => ?_, fun b hb => ?_, fun j c hj => ?_, fun j c hj => ?_⟩, ⟨by simpa using o1.len, fun j y hj => ?_, fun j m c hj => ?_, fun j k m c m' c' b hj hk e1 e2 => ?_, fun b hb => o1.dom b hb.1⟩, hdv⟩
          · rcases own_set (g := g1) (fun _ _ => rfl) hb with q | ⟨m, c, q, _⟩
            · exact s.own b q
            · cases q
          · rcases has_set (g := g1) (fun _ _ => rfl) hb with q | ⟨m, c, q, _⟩
            · exact s.has b q
            · cases q
          · obtain ⟨e1, c', e2⟩ := s.bor j c hj
            refine ⟨e1, c', ?_⟩
            have : j ≠ i := by rintro rfl; rw [h2] at e2; cases e2
            show (g1.env.set i _)[j]? = _
            rw [List.getElem?_set_ne (Ne.symm this)]; exact e2
          · obtain ⟨e1, e2⟩ := s.lck j c hj
            refine ⟨e1, ?_⟩
            have : j ≠ i := by rintro rfl; rw [h2] at e2; cases e2
            show (g1.env.set i _)[j]? = _
            rw [List.getElem?_set_ne (Ne.symm this)]; exact e2
          · have hj : (g1.env.set i _)[j]? = some (some (.d y)) := hj
            by_cases ij : j = i
            · subst ij
              rw [List.getElem?_set_self hil] at hj
              simp only [Option.some.injEq, MV.d.injEq] at hj
              subst hj
              exact ⟨_, h1, hdv⟩
            · rw [List.getElem?_set_ne (Ne.symm ij)] at hj
              obtain ⟨v, z1, z2⟩ := o1.dat j y hj
              exact ⟨v, z1, Dv.less (fun _ z => z.1) y v z2⟩
          · have hj : (g1.env.set i _)[j]? = some (some (.cell m c)) := hj
            by_cases ij : j = i
            · subst ij
              rw [List.getElem?_set_self hil] at hj; simp at hj
            · rw [List.getElem?_set_ne (Ne.symm ij)] at hj
              obtain ⟨b, z1, z2, z3⟩ := o1.cel j m c hj
              refine ⟨b, z1, ⟨z2, fun z => ?_⟩, ?_⟩
              · rw [z] at z1
                exact ij (o1.dis j i _ _ _ _ a hj h2 z1 h1)
              · cases c with
                | lst ys => obtain ⟨ws, w1, w2⟩ := z3; exact ⟨ws, w1, Dvs.less (fun _ z => z.1) ys ws w2⟩
                | _ => exact z3
          · have pr : ∀ {j : Nat} {m c}, (g1.env.set i (some (.d (.list xs))))[j]? = some (some (.cell m c)) → g1.env[j]? = some (some (.cell m c)) := fun {j m c} hj => by
              by_cases ij : j = i
              · subst ij
                rw [List.getElem?_set_self hil] at hj; simp at hj
              · rw [List.getElem?_set_ne (Ne.symm ij)] at hj; exact hj
            exact o1.dis j k m c m' c' b (pr hj) (pr hk) e1 e2
        | _ => simp [RV.take, h2] at ht
      | _ => simp [RV.take, h2] at ht

/-! ### data out of an expression -/
abbrev CF := SE → Res (PyData × SE)
def tCn (X : Cx) (W : WX) (f : CF) : TE := fun σ H Q => ∃ g : G, g.st = σ ∧ g.H = H ∧ g.Ok X.K ∧ Out X W g (f g.env) fun g' x => ∀ v, Dv X.K g'.A g'.H x v → Q v g'.H
structure FC (X : Cx) (e : Expr) (f : CF) : Prop where
  pe : ∀ W, Takes X W → PE X e (tCn X W f)
def fTake (f : EF) : CF := fun env => (f env).bind fun p => match p.1.take p.2 with
  | some q => .ok q
  | none => .fail
theorem FE.take {X : Cx} {e : Expr} {f : EF} (h : FE X e f) : FC X e (fTake f) := by
  refine ⟨fun W tk => ⟨fun pins s σ H Q I hq => ?_⟩⟩
  obtain ⟨g, rfl, rfl, ok, o⟩ := hq
  refine h.go tk ok I o.bind0 fun u s' g1 rv v e1 I1 r o1 st rr p => ?_
  cases ht : rv.take g1.env with
  | none => rw [ht] at p; exact p.elim
  | some q =>
    obtain ⟨x, env2⟩ := q
    rw [ht] at p
    obtain ⟨g2, k1, k2, k3, k4, k5, k6⟩ := rr.take ok st e1 o1 ht
    refine ⟨v, g2.H, ?_, r, p g2 k1 (k2.trans e1) k4 k5 v k6⟩
    rw [k3, ← e1]; exact I1
theorem FC.go {X : Cx} {e : Expr} {f : CF} (h : FC X e f) {W : WX} (tk : Takes X W) {g : G} (ok : g.Ok X.K) {pins : List (Addr × Obj)} {s : Shared} (I : Inv X pins g.st g.H s) {P : G → PyData → Prop} (o : Out X W g (f g.env) P)
    {Q : Value → Shared → Prop} (hQ : ∀ u s' g' x v, g'.st = g.st → Inv X pins g'.st g'.H s' → RelV v u → g'.Ok X.K → Stp g g' → Dv X.K g'.A g'.H x v → P g' x → Q u s') :
    wpAny (model X.prog X.w) X.A (eval e X.env) Q X.xe s := by
  refine thn ((h.pe W tk).run pins s g.st g.H (fun v H' => ∃ g' x, g'.H = H' ∧ g'.st = g.st ∧ g'.Ok X.K ∧ Stp g g' ∧ Dv X.K g'.A g'.H x v ∧ P g' x) I ⟨g, rfl, rfl, ok, o.imp fun g' x st e o p v r => ⟨g', x, rfl, e, o, st, r, p⟩⟩) ?_
  rintro u s' ⟨v, H', I', r, g', x, rfl, e, o', st, rr, p⟩
  exact hQ u s' g' x v e (e ▸ I') r o' st rr p

/-- several, one after another -/
abbrev CFs := SE → Res (List PyData × SE)
def tCs (X : Cx) (W : WX) (f : CFs) : TA := fun σ H Q => ∃ g : G, g.st = σ ∧ g.H = H ∧ g.Ok X.K ∧ Out X W g (f g.env) fun g' x => ∀ v, Dvs X.K g'.A g'.H x v → Q v g'.H
structure FCs (X : Cx) (es : List Expr) (f : CFs) : Prop where
  pa : ∀ W, Takes X W → PA X es (tCs X W f)
def fNil : CFs := fun env => .ok ([], env)
def fCons (f : CF) (t : CFs) : CFs := fun env => (f env).bind fun p => (t p.2).bind fun q => .ok (p.1 :: q.1, q.2)
theorem fcs_nil {X : Cx} : FCs X [] fNil := ⟨fun W tk => ⟨fun pos pins s σ H Q I hq => by
  obtain ⟨g, rfl, rfl, ok, o⟩ := hq
  exact pa_nil.run pos pins s g.st g.H Q I (o g rfl rfl (.refl g) ok [] .nil)⟩⟩
theorem FCs.go {X : Cx} {es : List Expr} {f : CFs} (h : FCs X es f) {W : WX} (tk : Takes X W) {g : G} (ok : g.Ok X.K) {pos : Pos} {pins : List (Addr × Obj)} {s : Shared} (I : Inv X pins g.st g.H s) {P : G → List PyData → Prop} (o : Out X W g (f g.env) P)
    {Q : List Value → Shared → Prop} (hQ : ∀ u s' g' x v, g'.st = g.st → Inv X pins g'.st g'.H s' → Vals v u → g'.Ok X.K → Stp g g' → Dvs X.K g'.A g'.H x v → P g' x → Q u s') :
    wpAny (model X.prog X.w) X.A (spliced (backTo pos (starEach es X.env))) Q X.xe s := by
  refine thn ((h.pa W tk).run pos pins s g.st g.H (fun v H' => ∃ g' x, g'.H = H' ∧ g'.st = g.st ∧ g'.Ok X.K ∧ Stp g g' ∧ Dvs X.K g'.A g'.H x v ∧ P g' x) I ⟨g, rfl, rfl, ok, o.imp fun g' x st e o p v r => ⟨g', x, rfl, e, o, st, r, p⟩⟩) ?_
  rintro u s' ⟨v, H', I', r, g', x, rfl, e, o', st, rr, p⟩
  exact hQ u s' g' x v e (e ▸ I') r o' st rr p
theorem fcs_cons {X : Cx} {e : Expr} {es : List Expr} {f : CF} {t : CFs} (h : FC X e f) (ht : FCs X es t) (hs : starEach (e :: es) X.env = (false, eval e X.env) :: starEach es X.env := by rfl) : FCs X (e :: es) (fCons f t) := by
  refine ⟨fun W tk => ⟨fun pos pins s σ H Q I hq => ?_⟩⟩
  obtain ⟨g, rfl, rfl, ok, o⟩ := hq
  rw [hs]
  show wpAny _ _ (spliced ((false, eval e X.env) :: backTo pos (starEach es X.env))) _ _ s
  refine Calls.spliced_cons (h.go tk ok I o.bind0 fun u s1 g1 x v e1 I1 r o1 st rr p => ?_)
  refine ht.go tk o1 I1 (p.rebase ok st e1).bind0 fun us s2 g2 xs vs e2 I2 r2 o2 st2 rr2 p2 => ?_
  exact ⟨v :: vs, g2.H, by rw [← e1, ← e2]; exact I2, .cons r r2, p2 g2 rfl e2 st2 o2 _ (.cons (st2.dv o1 rr) rr2)⟩

/-! ### new tuples, new lists -/
theorem alloc_ext {O A : AS} {H : Hp} {p : Addr} {o : HO} (hp : H p = none) : Ext O A H A (upd H p o) where
  keep := fun a u h _ => by rw [upd_ne (fun z => by rw [z, hp] at h; cases h)]; exact h
  tup := fun a u h => by rw [upd_ne (fun z => by rw [z, hp] at h; cases h)]; exact h
  frz := fun a u w h => by rw [upd_ne (fun z => by rw [z, hp] at h; cases h)]; exact h
  dom := fun a h => by rw [upd_ne (fun z => by rw [z] at h; exact h hp)]; exact h
  av1 := fun _ h _ => h
  av2 := fun _ h => .inl h
theorem G.Ok.ext {K : PySem.W.Frag} {g : G} {A' : AS} {H' : Hp} (ok : g.Ok K) (e : Ext (fun _ => False) g.A g.H A' H') (hA : ∀ a, g.A a → A' a) (hd : ∀ a, A' a → H' a ≠ none) : ({ g with A := A', H := H' } : G).Ok K where
  len := ok.len
  dat := fun i x h => by
    obtain ⟨v, h1, h2⟩ := ok.dat i x h
    exact ⟨v, h1, Dv.ext e (fun _ z => z.elim) x v h2⟩
  cel := fun i m c h => by
    obtain ⟨a, h1, h2, h3⟩ := ok.cel i m c h
    refine ⟨a, h1, hA a h2, ?_⟩
    cases c with
    | lst xs => obtain ⟨vs, q, r⟩ := h3; exact ⟨vs, e.keep _ _ q (fun z => z), Dvs.ext e (fun _ z => z.elim) xs vs r⟩
    | _ => exact h3.elim
  dis := ok.dis
  dom := hd
theorem alloc_tup {K : PySem.W.Frag} {g : G} {p : Addr} {xs : List PyData} {vs : List V} (ok : g.Ok K) (hp : g.H p = none) (h : Dvs K g.A g.H xs vs) :
    Stp g { g with H := upd g.H p (.tup vs) } ∧ ({ g with H := upd g.H p (.tup vs) } : G).Ok K ∧ Dv K g.A (upd g.H p (.tup vs)) (.tuple xs) (.ref p) := by
  have e : ∀ O, Ext O g.A g.H g.A (upd g.H p (.tup vs)) := fun O => alloc_ext hp
  refine ⟨⟨e _, fun _ h => .inl h, fun _ h => .inl h, fun i c h => ⟨rfl, c, h⟩, fun i c h => ⟨rfl, h⟩⟩, ok.ext (e _) (fun _ h => h) (fun a h => (e (fun _ => False)).dom a (ok.dom a h)), ?_⟩
  simp only [Dv]
  exact ⟨p, vs, rfl, .of upd_same, Dvs.ext (e (fun _ => False)) (fun _ z => z.elim) xs vs h⟩
theorem alloc_lst {K : PySem.W.Frag} {g : G} {p : Addr} {xs : List PyData} {vs : List V} (ok : g.Ok K) (hp : g.H p = none) (h : Dvs K g.A g.H xs vs) :
    Stp g { g with A := fun b => g.A b ∨ b = p, H := upd g.H p (.lst vs) } ∧ ({ g with A := fun b => g.A b ∨ b = p, H := upd g.H p (.lst vs) } : G).Ok K ∧
      RVR K g.H { g with A := fun b => g.A b ∨ b = p, H := upd g.H p (.lst vs) } (.tmp (.lst xs)) (.ref p) := by
  have e : ∀ O, Ext O g.A g.H (fun b => g.A b ∨ b = p) (upd g.H p (.lst vs)) := fun O =>
    let z := alloc_ext (O := O) (A := g.A) (o := .lst vs) hp
    ⟨z.keep, z.tup, z.frz, z.dom, fun _ h _ => .inl h, fun a h => h.elim .inl fun q => .inr (q ▸ hp)⟩
  refine ⟨⟨e _, fun _ h => .inl h, fun _ h => .inl h, fun i c h => ⟨rfl, c, h⟩, fun i c h => ⟨rfl, h⟩⟩, ok.ext (e _) (fun _ h => .inl h) (fun a h => ?_), p, rfl, .inr rfl, ⟨vs, upd_same, Dvs.ext (e (fun _ => False)) (fun _ z => z.elim) xs vs h⟩, hp, fun ⟨i, m, c, hi, z⟩ => ?_⟩
  · rcases h with h | h
    · exact (e (fun _ => False)).dom a (ok.dom a h)
    · rw [h, upd_same]; simp
  · obtain ⟨a, h1, _, h3⟩ := ok.cel i m c hi
    have z : g.st[i]? = some (some (.ref p)) := z
    rw [h1] at z; cases z
    exact h3.some hp

def fTup (f : CFs) : EF := fun env => (f env).bind fun p => if p.1.length ≤ lim then .ok (.d (.tuple p.1), p.2) else .fail
def fLst (f : CFs) : EF := fun env => (f env).bind fun p => if p.1.length ≤ lim then .ok (.tmp (.lst p.1), p.2) else .fail
theorem fe_tup {X : Cx} {es : List Expr} {f : CFs} {k : Nat} {pos : Pos} (h : FCs X es f) : FE X (.Tuple es k pos) (fTup f) := by
  refine ⟨fun W tk => ⟨fun pins s σ H Q I hq => ?_⟩⟩
  obtain ⟨g, rfl, rfl, ok, o⟩ := hq
  refine (pe_tup (h.pa W tk)).run pins s g.st g.H Q I ⟨g, rfl, rfl, ok, o.bind0.imp fun g1 xs st e o1 p vs r => ?_⟩
  by_cases hl : xs.length ≤ lim
  · simp only [if_pos hl] at p
    refine ⟨by rw [← r.length, ← lim_line]; exact hl, fun q hq => ?_⟩
    obtain ⟨s2, o2, r2⟩ := alloc_tup o1 hq r
    exact p { g1 with H := upd g1.H q (.tup vs) } rfl e (st.trans ok s2) o2 _ r2
  · simp only [if_neg hl] at p
    exact p.elim
theorem RVR.old {K : PySem.W.Frag} {H0 H1 : Hp} {g : G} {r : RV} {v : V} (h : RVR K H1 g r v) (d : ∀ a, H0 a ≠ none → H1 a ≠ none) : RVR K H0 g r v := by
  cases r with
  | tmp c => obtain ⟨a, h1, h2, h3, h4, h5⟩ := h; exact ⟨a, h1, h2, h3, none_of_dom d h4, h5⟩
  | _ => exact h
theorem fe_lst {X : Cx} {es : List Expr} {f : CFs} {pos : Pos} (h : FCs X es f) : FE X (.List es pos) (fLst f) := by
  refine ⟨fun W tk => ⟨fun pins s σ H Q I hq => ?_⟩⟩
  obtain ⟨g, rfl, rfl, ok, o⟩ := hq
  refine (pe_lst (h.pa W tk)).run pins s g.st g.H Q I ⟨g, rfl, rfl, ok, o.bind0.imp fun g1 xs st e o1 p vs r => ?_⟩
  by_cases hl : xs.length ≤ lim
  · simp only [if_pos hl] at p
    refine ⟨by rw [← r.length, ← lim_line]; exact hl, fun q hq => ?_⟩
    obtain ⟨s2, o2, r2⟩ := alloc_lst o1 hq r
    exact p { g1 with A := fun b => g1.A b ∨ b = q, H := upd g1.H q (.lst vs) } rfl e (st.trans ok s2) o2 _ (r2.old st.ext.dom)
  · simp only [if_neg hl] at p
    exact p.elim

/-! ### names, constants -/
def fName (i : Nat) : EF := fun env => match env[i]? with
  | some (some (.d x)) => .ok (.d x, env)
  | some (some (.cell _ _)) => .ok (.slot i, env)
  | _ => .fail
theorem fe_name {X : Cx} {e : Expr} {i : Nat} (h : PE X e (tVar i)) : FE X e (fName i) := by
  refine ⟨fun W tk => ⟨fun pins s σ H Q I hq => ?_⟩⟩
  obtain ⟨g, rfl, rfl, ok, o⟩ := hq
  cases he : g.env[i]? with
  | none => simp only [fName, he] at o; exact o.elim
  | some y => cases y with
    | none => simp only [fName, he] at o; exact o.elim
    | some mv => cases mv with
      | d x =>
        simp only [fName, he] at o
        obtain ⟨v, h1, h2⟩ := ok.dat i x he
        exact h.run pins s g.st g.H Q I ⟨v, h1, o g rfl rfl (.refl g) ok v h2⟩
      | cell m c =>
        simp only [fName, he] at o
        obtain ⟨a, h1, h2, h3⟩ := ok.cel i m c he
        exact h.run pins s g.st g.H Q I ⟨_, h1, o g rfl rfl (.refl g) ok _ h1⟩
def fC (x : PyData) : EF := fun env => .ok (.d x, env)
theorem fe_c {X : Cx} {e : Expr} {x : PyData} {v : V} (h : PE X e (L2.tC v)) (hx : ∀ K A H, Dv K A H x v) : FE X e (fC x) := by
  refine ⟨fun W tk => ⟨fun pins s σ H Q I hq => ?_⟩⟩
  obtain ⟨g, rfl, rfl, ok, o⟩ := hq
  exact h.run pins s g.st g.H Q I (o g rfl rfl (.refl g) ok _ (hx _ _ _))
theorem fe_int {X : Cx} {i j pos} : FE X (.Constant (.int i) j pos) (fC (.int i)) := fe_c pe_int fun _ _ _ => by simp only [Dv]
theorem fe_bl {X : Cx} {i j pos} : FE X (.Constant (.bool i) j pos) (fC (.bool i)) := fe_c pe_bl fun _ _ _ => by simp only [Dv]
theorem fe_non {X : Cx} {j pos} : FE X (.Constant .none j pos) (fC .none) := fe_c pe_non fun _ _ _ => by simp only [Dv]
theorem fe_str {X : Cx} {i j pos} : FE X (.Constant (.str i) j pos) (fC (.str i)) := fe_c pe_str fun _ _ _ => by simp only [Dv]
/-- a module's int -/
theorem fe_gint {X : Cx} {x : Str} {i : Int} {t : Tok} {pos : Pos} (hg : Gl X x) (hm : X.mg x = some (.int i t)) (hd : (x == ("__debug__" : Str)) = false := by decide) : FE X (.Name x pos) (fC (.int i)) :=
  fe_c (v := .int i) (pe_glob hg hm ⟨t, rfl⟩ hd) fun _ _ _ => by simp only [Dv]
end BH

set_option maxRecDepth 100000
set_option maxHeartbeats 2000000
namespace BH
open PySem PySem.Spec PyProof.Rows L2

section
variable {X : Cx} {pins : List (Addr × Obj)} {σ : L2.St} {H : Hp} {s : Shared} {A : AS}
mutual
theorem Dv.reads (I : Inv X pins σ H s) : ∀ (d : PyData) (v : V) (u : Value), Dv X.K A H d v → RelV v u → ∃ as, Reads s.heap u d as
  | .none, v, u, h, r => by simp only [Dv] at h; subst h; cases r; exact ⟨[], .none⟩
  | .bool b, v, u, h, r => by simp only [Dv] at h; subst h; cases r; exact ⟨[], .bool b⟩
  | .int i, v, u, h, r => by simp only [Dv] at h; subst h; obtain ⟨t, rfl⟩ := r; exact ⟨[], .int i t⟩
  | .str x, v, u, h, r => by simp only [Dv] at h; subst h; obtain ⟨t, rfl⟩ := r; exact ⟨[], .str x t⟩
  | .tuple ds, v, u, h, r => by
    simp only [Dv] at h
    obtain ⟨a, vs, rfl, q, t⟩ := h
    cases r
    obtain ⟨its, rv, p, hz⟩ := I.tuple q
    obtain ⟨o, e1, e2, n, e3⟩ := p
    obtain ⟨as, hr⟩ := Dvs.reads I ds vs its t rv
    exact ⟨as, .tuple e1 e2 e3 (by simpa using hr)⟩
  | .list ds, v, u, h, r => by
    simp only [Dv] at h
    obtain ⟨a, vs, rfl, q, t⟩ := h
    cases r
    obtain ⟨its, rv, ⟨o, n, e1, e2, e3, e4⟩, hz⟩ := I.list q.sq
    obtain ⟨as, hr⟩ := Dvs.reads I ds vs its t rv
    exact ⟨_, .list e1 e2 e4 (by simpa using hr)⟩
  | .dict kvs, v, u, h, r => by
    simp only [Dv] at h
    obtain ⟨rfl, a, rfl, _, q⟩ := h
    cases r
    obtain ⟨_, _, vs, rk, ob, es, ep, e, ex, hd, _, hes, _⟩ := I.hok a _ q
    cases rk
    have he : es.toList = [] := by
      cases hq : es.toList with
      | nil => rfl
      | cons a r => rw [hq] at hes; cases hes
    exact ⟨_, .dict (as := []) (bs := []) e ex.1 hd (by rw [he]; exact .nil) (by rw [he]; exact .nil)⟩
theorem Dvs.reads (I : Inv X pins σ H s) : ∀ (ds : List PyData) (vs : List V) (us : List Value), Dvs X.K A H ds vs → Vals vs us → ∃ as, ReadsAll s.heap us ds as
  | [], vs, us, h, r => by simp only [Dvs] at h; subst h; cases r; exact ⟨[], .nil⟩
  | d :: ds, vs, us, h, r => by
    simp only [Dvs] at h
    obtain ⟨v, t, rfl, q, z⟩ := h
    cases r with
    | cons r1 r2 =>
      obtain ⟨as, q1⟩ := Dv.reads I d v _ q r1
      obtain ⟨bs, q2⟩ := Dvs.reads I ds t _ z r2
      exact ⟨as ++ bs, .cons q1 q2⟩
end
theorem Dw.reads (I : Inv X pins σ H s) {d : PyData} {v : V} {u : Value} (h : Dw X.K A H d v) (r : RelV v u) : ∃ as, Reads s.heap u d as := by
  cases d with
  | list ds =>
    obtain ⟨a, vs, rfl, q, t⟩ := h
    cases r
    obtain ⟨its, rv, ⟨o, n, e1, e2, e3, e4⟩, hz⟩ := I.list q
    obtain ⟨as, hr⟩ := Dvs.reads I ds vs its t rv
    exact ⟨_, .list e1 e2 e4 (by simpa using hr)⟩
  | _ => exact Dv.reads (A := A) I _ _ _ h r
end

/-! ### operators by values -/
/-- what an operator hands back -/
def OpQ (X : Cx) (pins : List (Addr × Obj)) (g : G) (r : RV) (z : Value) (s' : Shared) : Prop :=
  ∃ v g', g'.st = g.st ∧ g'.env = g.env ∧ Inv X pins g.st g'.H s' ∧ RelV v z ∧ Stp g g' ∧ g'.Ok X.K ∧ RVR X.K g.H g' r v
def OpD (X : Cx) (f : Value → Value → Sem Value) (op : PyData → PyData → Option RV) : Prop :=
  ∀ (g : G) (pins : List (Addr × Obj)) (s : Shared) (x y : PyData) (v w : V) (u t : Value) (r : RV), g.Ok X.K → Inv X pins g.st g.H s → Dw X.K g.A g.H x v → Dw X.K g.A g.H y w → RelV v u → RelV w t → op x y = some r →
    wpAny (model X.prog X.w) X.A (f u t) (OpQ X pins g r) X.xe s
def UnD (X : Cx) (f : Value → Sem Value) (op : PyData → Option RV) : Prop :=
  ∀ (g : G) (pins : List (Addr × Obj)) (s : Shared) (x : PyData) (v : V) (u : Value) (r : RV), g.Ok X.K → Inv X pins g.st g.H s → Dw X.K g.A g.H x v → RelV v u → op x = some r →
    wpAny (model X.prog X.w) X.A (f u) (OpQ X pins g r) X.xe s
theorem OpQ.same {X : Cx} {pins : List (Addr × Obj)} {g : G} {x : PyData} {v : V} {z : Value} {s : Shared} (ok : g.Ok X.K) (I : Inv X pins g.st g.H s) (r : RelV v z) (h : Dv X.K g.A g.H x v) : OpQ X pins g (.d x) z s :=
  ⟨v, g, rfl, rfl, I, r, .refl g, ok, h⟩
theorem opq_bl {X : Cx} {pins : List (Addr × Obj)} {g : G} {b : Bool} {s : Shared} (ok : g.Ok X.K) (I : Inv X pins g.st g.H s) : OpQ X pins g (.d (.bool b)) (.bool b) s :=
  ⟨.bl b, g, rfl, rfl, I, rfl, .refl g, ok, by show Dv _ _ _ _ _; simp only [Dv]⟩
/-- a scalar -/
def scalD : PyData → Option V
  | .none => some .non
  | .bool b => some (.bl b)
  | .int i => some (.int i)
  | .str x => some (.str x)
  | _ => none
theorem dv_scal {K : PySem.W.Frag} {A : AS} {H : Hp} {x : PyData} {v : V} (h : scalD x = some v) : Dv K A H x v := by
  cases x <;> simp [scalD] at h <;> subst h <;> simp only [Dv]
theorem dw_scal {K : PySem.W.Frag} {A : AS} {H : Hp} {x : PyData} {v w : V} (h : scalD x = some w) (d : Dw K A H x v) : v = w := by
  cases x <;> simp [scalD] at h <;> subst h <;> (have d : Dv K A H _ v := d) <;> simpa only [Dv] using d
/-- from a rule of HandS: the result is a scalar, the heap stays -/
theorem OpD.of {X : Cx} {f : Value → Value → Sem Value} {r : R2} {op : PyData → PyData → Option RV} (h : OpR X f r)
    (hq : ∀ (g : G) (pins : List (Addr × Obj)) (s : Shared) (x y : PyData) (v w : V) (res : RV) (Q : VK), g.Ok X.K → Inv X pins g.st g.H s → Dw X.K g.A g.H x v → Dw X.K g.A g.H y w → op x y = some res →
      (∀ v' (g' : G), g'.st = g.st → g'.env = g.env → Stp g g' → g'.Ok X.K → RVR X.K g.H g' res v' → Q v' g'.H) → r v w g.H Q) : OpD X f op := by
  intro g pins s x y v w u t res ok I hx hy rv rw e
  refine thn (h pins s g.st g.H v w u t (fun v' H' => ∃ g' : G, g'.H = H' ∧ g'.st = g.st ∧ g'.env = g.env ∧ Stp g g' ∧ g'.Ok X.K ∧ RVR X.K g.H g' res v') I rv rw (hq g pins s x y v w res _ ok I hx hy e fun v' g' e1 e2 e3 e4 e5 => ⟨g', rfl, e1, e2, e3, e4, e5⟩)) ?_
  rintro z s' ⟨v', H', I', r', g', rfl, e1, e2, e3, e4, e5⟩
  exact ⟨v', g', e1, e2, I', r', e3, e4, e5⟩

def fBin (op : PyData → PyData → Option RV) (fa fb : EF) : EF := fun env => (fa env).bind fun p => (fb p.2).bind fun q =>
  match p.1.view q.2, q.1.view q.2 with
  | some x, some y => match op x y with
    | some r => .ok (r, q.2)
    | none => .fail
  | _, _ => .fail
theorem RVR.sub {K : PySem.W.Frag} {H0 : Hp} {g : G} {r : RV} {v : V} (h : RVR K g.H g r v) (d : ∀ a, H0 a ≠ none → g.H a ≠ none) : RVR K H0 g r v := h.old d
/-- two operands, then f -/
theorem two {X : Cx} {W : WX} {a b : Expr} {fa fb : EF} {op : PyData → PyData → Option RV} {f : Value → Value → Sem Value} (tk : Takes X W) (ha : FE X a fa) (hb : FE X b fb) (ho : OpD X f op) {g : G} {pins : List (Addr × Obj)} {s : Shared}
    (ok : g.Ok X.K) (I : Inv X pins g.st g.H s) {P : G → RV → Prop} (o : Out X W g (fBin op fa fb g.env) P) {Q : Value → Shared → Prop}
    (hQ : ∀ z s' g' rv v, Inv X pins g.st g'.H s' → RelV v z → RVR X.K g.H g' rv v → P g' rv → Q z s') :
    wpAny (model X.prog X.w) X.A (eval a X.env) (fun u s₁ => wpAny (model X.prog X.w) X.A (eval b X.env) (fun t s₂ => wpAny (model X.prog X.w) X.A (f u t) Q X.xe s₂) X.xe s₁) X.xe s := by
  refine ha.go tk ok I o.bind0 fun u s1 g1 r1 v1 e1 I1 rl1 ok1 st1 rr1 p1 => ?_
  refine hb.go tk ok1 I1 (p1.rebase ok st1 e1).bind0 fun t s2 g2 r2 v2 e2 I2 rl2 ok2 st2 rr2 p2 => ?_
  have rr1' := rr1.step ok1 st2 e2
  have st := st1.trans ok st2
  cases hx : r1.view g2.env with
  | none => rw [hx] at p2; exact p2.elim
  | some x =>
    cases hy : r2.view g2.env with
    | none => rw [hx, hy] at p2; exact p2.elim
    | some y =>
      rw [hx, hy] at p2
      simp only at p2
      cases hr : op x y with
      | none => rw [hr] at p2; exact p2.elim
      | some r =>
        rw [hr] at p2
        refine thn (ho g2 pins s2 x y v1 v2 u t r ok2 I2 (rr1'.dw ok2 hx) (rr2.dw ok2 hy) rl1 rl2 hr) ?_
        rintro z s3 ⟨v, g3, e3, e4, I3, rl3, st3, ok3, rr3⟩
        have st23 := st2.trans ok1 st3
        exact hQ z s3 g3 r v (by rw [← e1, ← e2]; exact I3) rl3 (rr3.old st.ext.dom) (p2 g3 e4 (e3.trans e2) st23 ok3)
theorem fe_bin {X : Cx} {a b : Expr} {op : Operator} {fa fb : EF} {o : PyData → PyData → Option RV} {pos : Pos} (ho : OpD X (binaryOp op) o) (ha : FE X a fa) (hb : FE X b fb) : FE X (.BinOp a op b pos) (fBin o fa fb) :=
  fe_mk fun W tk g pins s P ok I h => wpAny_BinOp (two tk ha hb ho ok I h fun z s' g' rv v I' r rr p => ⟨v, g', rv, I', r, rr, p⟩)
theorem fe_cmp {X : Cx} {a b : Expr} {op : CmpOp} {fa fb : EF} {o : PyData → PyData → Option RV} {pos : Pos} (ho : OpD X (compareOp op) o) (ha : FE X a fa) (hb : FE X b fb) (hm : behindInMarks op b = false := by rfl) : FE X (.Compare a [op] [b] pos) (fBin o fa fb) :=
  fe_mk fun W tk g pins s P ok I h => wpAny_Compare1 (two tk ha hb ho ok I h fun z s' g' rv v I' r rr p => ⟨v, g', rv, I', r, rr, p⟩) hm

/-! ### + - * // % ** -/
def opAdd : PyData → PyData → Option RV
  | .int i, .int j => some (.d (.int (i + j)))
  | .str a, .str b => if a.length + b.length ≤ lim then some (.d (.str (a ++ b))) else none
  | .tuple a, .tuple b => if a.length + b.length ≤ lim then some (.d (.tuple (a ++ b))) else none
  | .list a, .list b => if a.length + b.length ≤ lim then some (.tmp (.lst (a ++ b))) else none
  | _, _ => none
def opSub : PyData → PyData → Option RV
  | .int i, .int j => some (.d (.int (i - j)))
  | _, _ => none
def mulG (i j : Int) : Prop := ((-(2 ^ 64) < i ∧ i < 2 ^ 64) ∨ (-(2 ^ 64) < j ∧ j < 2 ^ 64)) ∨ i.natAbs.log2 + j.natAbs.log2 < 1000000
instance (i j : Int) : Decidable (mulG i j) := by unfold mulG; exact inferInstance
def opMul : PyData → PyData → Option RV
  | .int i, .int j => if mulG i j then some (.d (.int (i * j))) else none
  | _, _ => none
def divG (j : Int) : Prop := 0 < j ∧ j.natAbs.log2 < 9000
instance (j : Int) : Decidable (divG j) := by unfold divG; exact inferInstance
def divN (j : Int) : Prop := j ≠ 0 ∧ j.natAbs < 1073741824
instance (j : Int) : Decidable (divN j) := by unfold divN; exact inferInstance
def opDiv : PyData → PyData → Option RV
  | .int i, .int j => if divG j then some (.d (.int (i / j))) else if divN j then some (.d (.int (i.fdiv j))) else none
  | _, _ => none
def opMod : PyData → PyData → Option RV
  | .int i, .int j => if 0 < j then some (.d (.int (i % j))) else if j ≠ 0 then some (.d (.int (i.fmod j))) else none
  | _, _ => none
def powG (i j : Int) : Prop := 0 ≤ j ∧ j ≤ 1000000 ∧ i.natAbs < 2 ^ 64
instance (i j : Int) : Decidable (powG i j) := by unfold powG; exact inferInstance
def opPow : PyData → PyData → Option RV
  | .int i, .int j => if powG i j then some (.d (.int (i ^ j.toNat))) else none
  | _, _ => none

section
variable {X : Cx}
theorem dw_int {K : PySem.W.Frag} {A : AS} {H : Hp} {i : Int} {v : V} (d : Dw K A H (.int i) v) : v = .int i := dw_scal (x := .int i) rfl d
theorem dw_str {K : PySem.W.Frag} {A : AS} {H : Hp} {i : Str} {v : V} (d : Dw K A H (.str i) v) : v = .str i := dw_scal (x := .str i) rfl d
theorem dv_int {K : PySem.W.Frag} {A : AS} {H : Hp} {i : Int} : Dv K A H (.int i) (.int i) := dv_scal (x := .int i) rfl
theorem dv_bl {K : PySem.W.Frag} {A : AS} {H : Hp} {i : Bool} : Dv K A H (.bool i) (.bl i) := dv_scal (x := .bool i) rfl
theorem dv_str {K : PySem.W.Frag} {A : AS} {H : Hp} {i : Str} : Dv K A H (.str i) (.str i) := dv_scal (x := .str i) rfl
theorem dv_non {K : PySem.W.Frag} {A : AS} {H : Hp} : Dv K A H .none .non := dv_scal (x := .none) rfl
theorem dw_tup {K : PySem.W.Frag} {A : AS} {H : Hp} {ds : List PyData} {v : V} (d : Dw K A H (.tuple ds) v) : ∃ a vs, v = .ref a ∧ SqT K H a vs ∧ Dvs K A H ds vs := by
  have d : Dv K A H (.tuple ds) v := d
  simpa only [Dv] using d
theorem dw_lst {K : PySem.W.Frag} {A : AS} {H : Hp} {ds : List PyData} {v : V} (d : Dw K A H (.list ds) v) : ∃ a vs, v = .ref a ∧ SqL K H a vs ∧ Dvs K A H ds vs := d
theorem cat_lists {prog : Program} {w : World} {A : Around} {E : Value → Shared → Prop} {s : Shared} {l b : Addr} {xs ys : Array Value} {n n2 : Nat} {dd dd2 : Option Addr} {sl sl2 : Array (Option Value)} {Q : Value → Shared → Prop}
    (ho : s.heap.get? l = some { cls := .type "list", dict := dd, data := .seq xs n, slots := sl }) (ho2 : s.heap.get? b = some { cls := .type "list", dict := dd2, data := .seq ys n2, slots := sl2 }) (hsz : xs.size + ys.size ≤ sizeLine)
    (h : Q (.ref s.heap.objs.size) { s with heap := s.heap.push { cls := .type "list", data := .seq (xs ++ ys) } }) : wpAny (model prog w) A (binaryOp .Add (.ref l) (.ref b)) Q E s :=
  concat_meets ⟨_, ho, rfl⟩ ⟨_, ho2, rfl⟩ noFill_list_add seq_list_add F.slot_list_add F.entry_list_add (F.args_list_add_2 _ _)
    (list_addW l b xs ys n n2 dd dd2 sl sl2 hsz) ⟨ho, ho2, h⟩
/-- list + list, whatever holds them -/
theorem op_catR : OpR X (binaryOp .Add) (fun x y H Q => ∃ l b xs zs, x = .ref l ∧ y = .ref b ∧ SqL X.K H l xs ∧ SqL X.K H b zs ∧ xs.length + zs.length ≤ sizeLine ∧ ∀ p, H p = none → Q (.ref p) (upd H p (.lst (xs ++ zs)))) := by
  intro pins s σ H x y v u Q I rx ry h
  obtain ⟨l, b, xs, zs, rfl, rfl, hH, hB, hz, q⟩ := h
  cases rx
  cases ry
  obtain ⟨its, r, ⟨⟨cls, dd, data, sl⟩, n, ho, hc, hdd, hd⟩, z⟩ := I.list hH
  obtain ⟨its2, r2, ⟨⟨cls2, dd2, data2, sl2⟩, n2, ho2, hc2, hdd2, hd2⟩, z2⟩ := I.list hB
  have hl := r.length
  have hl2 := r2.length
  simp only at hc hd hc2 hd2
  subst hc hd hc2 hd2
  have hsz : its.toArray.size + its2.toArray.size ≤ sizeLine := by rw [List.size_toArray, List.size_toArray]; omega
  refine cat_lists ho ho2 hsz ?_
  have ea : its.toArray ++ its2.toArray = (its ++ its2).toArray := by simp
  rw [ea]
  exact ⟨.ref _, _, I.lnew (t' := s.toks) (r.append r2) (by rw [List.length_append]; omega), rfl, q _ I.fresh⟩
theorem od_add : OpD X (binaryOp .Add) opAdd := by
  intro g pins s x y v w u t r ok I hx hy rv rw e
  unfold opAdd at e
  split at e
  · cases e
    obtain rfl := dw_int hx
    obtain rfl := dw_int hy
    exact thn (op_add pins s g.st g.H _ _ u t (fun v' H' => v' = .int _ ∧ H' = g.H) I rv rw ⟨_, _, rfl, rfl, rfl, rfl⟩) fun z s' ⟨v', H', I', r', e1, e2⟩ => by subst e1 e2; exact .same ok I' r' dv_int
  · split at e
    · cases e
      obtain rfl := dw_str hx
      obtain rfl := dw_str hy
      rename_i hz
      exact thn (op_add_str pins s g.st g.H _ _ u t (fun v' H' => v' = .str _ ∧ H' = g.H) I rv rw ⟨_, _, rfl, rfl, by rw [← lim_line]; exact hz, rfl, rfl⟩) fun z s' ⟨v', H', I', r', e1, e2⟩ => by subst e1 e2; exact .same ok I' r' dv_str
    · cases e
  · split at e
    · cases e
      rename_i ds es hz
      obtain ⟨a, vs, rfl, qa, ra⟩ := dw_tup hx
      obtain ⟨b, ws, rfl, qb, rb⟩ := dw_tup hy
      have l1 := ra.length
      have l2 := rb.length
      refine thn (op_catA pins s g.st g.H _ _ u t (fun v' H' => ∃ g' : G, g'.H = H' ∧ g'.st = g.st ∧ g'.env = g.env ∧ Stp g g' ∧ g'.Ok X.K ∧ RVR X.K g.H g' (.d (.tuple (ds ++ es))) v') I rv rw ⟨a, b, vs, ws, rfl, rfl, qa, qb, by rw [← lim_line]; omega, fun h => ?_, fun _ h => ?_, fun _ _ p hp => ?_⟩) fun z s' ⟨v', H', I', r', g', e1, e2, e3, e4, e5, e6⟩ => ⟨v', g', e2, e3, by rw [e1]; exact I', r', e4, e5, e6⟩
      · subst h
        have : ds = [] := by simpa using l1
        subst this
        exact ⟨g, rfl, rfl, rfl, .refl g, ok, hy⟩
      · subst h
        have : es = [] := by simpa using l2
        subst this
        exact ⟨g, rfl, rfl, rfl, .refl g, ok, by rw [List.append_nil]; exact hx⟩
      · obtain ⟨s2, o2, r2⟩ := alloc_tup ok hp (ra.append rb)
        exact ⟨{ g with H := upd g.H p (.tup (vs ++ ws)) }, rfl, rfl, rfl, s2, o2, r2⟩
    · cases e
  · split at e
    · cases e
      rename_i ds es hz
      obtain ⟨a, vs, rfl, qa, ra⟩ := dw_lst hx
      obtain ⟨b, ws, rfl, qb, rb⟩ := dw_lst hy
      have l1 := ra.length
      have l2 := rb.length
      refine thn (op_catR pins s g.st g.H _ _ u t (fun v' H' => ∃ g' : G, g'.H = H' ∧ g'.st = g.st ∧ g'.env = g.env ∧ Stp g g' ∧ g'.Ok X.K ∧ RVR X.K g.H g' (.tmp (.lst (ds ++ es))) v') I rv rw ⟨a, b, vs, ws, rfl, rfl, qa, qb, by rw [← lim_line]; omega, fun p hp => ?_⟩) fun z s' ⟨v', H', I', r', g', e1, e2, e3, e4, e5, e6⟩ => ⟨v', g', e2, e3, by rw [e1]; exact I', r', e4, e5, e6⟩
      obtain ⟨s2, o2, r2⟩ := alloc_lst ok hp (ra.append rb)
      exact ⟨{ g with A := fun b => g.A b ∨ b = p, H := upd g.H p (.lst (vs ++ ws)) }, rfl, rfl, rfl, s2, o2, r2⟩
    · cases e
  · cases e
/-- ints -/
theorem od_int {f : Value → Value → Sem Value} {C : Int → Int → Prop} {k : Int → Int → Int} (h : OpR X f (rI C fun i j => .int (k i j))) {g : G} {pins : List (Addr × Obj)} {s : Shared} {i j : Int} {v w : V} {u t : Value} (ok : g.Ok X.K) (I : Inv X pins g.st g.H s)
    (hx : Dw X.K g.A g.H (.int i) v) (hy : Dw X.K g.A g.H (.int j) w) (rv : RelV v u) (rw : RelV w t) (c : C i j) : wpAny (model X.prog X.w) X.A (f u t) (OpQ X pins g (.d (.int (k i j)))) X.xe s := by
  obtain rfl := dw_int hx
  obtain rfl := dw_int hy
  exact thn (h pins s g.st g.H _ _ u t (fun v' H' => v' = .int _ ∧ H' = g.H) I rv rw ⟨_, _, rfl, rfl, c, rfl, rfl⟩) fun z s' ⟨v', H', I', r', e1, e2⟩ => by subst e1 e2; exact .same ok I' r' dv_int
theorem od_sub : OpD X (binaryOp .Sub) opSub := by
  intro g pins s x y v w u t r ok I hx hy rv rw e
  unfold opSub at e
  split at e
  · cases e
    obtain rfl := dw_int hx
    obtain rfl := dw_int hy
    exact thn (op_sub pins s g.st g.H _ _ u t (fun v' H' => v' = .int _ ∧ H' = g.H) I rv rw ⟨_, _, rfl, rfl, rfl, rfl⟩) fun z s' ⟨v', H', I', r', e1, e2⟩ => by subst e1 e2; exact .same ok I' r' dv_int
  · cases e
theorem od_mul : OpD X (binaryOp .Mult) opMul := by
  intro g pins s x y v w u t r ok I hx hy rv rw e
  unfold opMul at e
  split at e
  · split at e
    · cases e
      rename_i c
      rcases c with c | c
      · exact od_int op_mul ok I hx hy rv rw c
      · exact od_int op_mulW ok I hx hy rv rw c
    · cases e
  · cases e
theorem od_div : OpD X (binaryOp .FloorDiv) opDiv := by
  intro g pins s x y v w u t r ok I hx hy rv rw e
  unfold opDiv at e
  split at e
  · split at e
    · cases e
      rename_i c
      exact od_int op_fdivW ok I hx hy rv rw c
    · split at e
      · cases e
        rename_i c
        exact od_int op_fdivN ok I hx hy rv rw c
      · cases e
  · cases e
theorem od_mod : OpD X (binaryOp .Mod) opMod := by
  intro g pins s x y v w u t r ok I hx hy rv rw e
  unfold opMod at e
  split at e
  · split at e
    · cases e
      rename_i c
      exact od_int op_mod ok I hx hy rv rw c
    · split at e
      · cases e
        rename_i c
        exact od_int op_modN ok I hx hy rv rw c
      · cases e
  · cases e
theorem od_pow : OpD X (binaryOp .Pow) opPow := by
  intro g pins s x y v w u t r ok I hx hy rv rw e
  unfold opPow at e
  split at e
  · split at e
    · cases e
      rename_i c
      exact od_int op_pow ok I hx hy rv rw c
    · cases e
  · cases e
/-! ### comparisons -/
def opEq (neg : Bool) : PyData → PyData → Option RV := fun x y => if SeqAt.shaped x && SeqAt.shaped y then some (.d (.bool (if neg then !PyData.eqv x y else PyData.eqv x y))) else none
theorem od_eq (hu : X.A.units + 65 < cLine) : OpD X (compareOp .Eq) (opEq false) := by
  intro g pins s x y v w u t r ok I hx hy rv rw e
  unfold opEq at e
  split at e
  · cases e
    rename_i c
    rw [Bool.and_eq_true] at c
    obtain ⟨as, r1⟩ := hx.reads I rv
    obtain ⟨bs, r2⟩ := hy.reads I rw
    exact PyProof.Rows.eq_dataH r1 r2 c.1 c.2 (by omega) (opq_bl ok I)
  · cases e
theorem od_ne (hu : X.A.units + 65 < cLine) : OpD X (compareOp .NotEq) (opEq true) := by
  intro g pins s x y v w u t r ok I hx hy rv rw e
  unfold opEq at e
  split at e
  · cases e
    rename_i c
    rw [Bool.and_eq_true] at c
    obtain ⟨as, r1⟩ := hx.reads I rv
    obtain ⟨bs, r2⟩ := hy.reads I rw
    exact PyProof.Rows.ne_dataH r1 r2 c.1 c.2 (by omega) (opq_bl ok I)
  · cases e
def opIn (neg : Bool) : PyData → PyData → Option RV
  | x, .list ys => if SeqAt.shaped x && SeqAt.shaped (.list ys) then some (.d (.bool (if neg then !ys.any (fun y => PyData.eqv y x) else ys.any fun y => PyData.eqv y x))) else none
  | x, .tuple ys => if SeqAt.shaped x && SeqAt.shaped (.tuple ys) then some (.d (.bool (if neg then !ys.any (fun y => PyData.eqv y x) else ys.any fun y => PyData.eqv y x))) else none
  | _, _ => none
theorem shaped_in {ys : List PyData} {x : PyData} {A : Around} (h : SeqAt.shaped x = true) (hu : A.units + 65 < cLine) : A.units + 1 + min (PyData.depthAll ys) x.depth < cLine := by
  have h1 := SeqAt.depth_of_shaped h
  have h2 : min (PyData.depthAll ys) x.depth ≤ x.depth := Nat.min_le_right _ _
  omega
theorem canLay_lst {ys : List PyData} (h : SeqAt.shaped (.list ys) = true) : PyData.canLayAll0 ys = true := by
  have := SeqAt.canLay_of_shaped h
  simpa [PyData.canLay0] using this
theorem canLay_tup {ys : List PyData} (h : SeqAt.shaped (.tuple ys) = true) : PyData.canLayAll0 ys = true := by
  have := SeqAt.canLay_of_shaped h
  simpa [PyData.canLay0] using this
theorem od_in (hu : X.A.units + 65 < cLine) : OpD X (compareOp .In) (opIn false) := by
  intro g pins s x y v w u t r ok I hx hy rv rw e
  unfold opIn at e
  obtain ⟨as, r1⟩ := hx.reads I rv
  obtain ⟨bs, r2⟩ := hy.reads I rw
  split at e
  · split at e
    · cases e
      rename_i c
      rw [Bool.and_eq_true] at c
      exact SeqAt.in_list_reads r2 r1 (canLay_lst c.2) (SeqAt.canLay_of_shaped c.1) (shaped_in c.1 hu) (opq_bl ok I)
    · cases e
  · split at e
    · cases e
      rename_i c
      rw [Bool.and_eq_true] at c
      exact SeqAt.in_tuple_reads r2 r1 (canLay_tup c.2) (SeqAt.canLay_of_shaped c.1) (shaped_in c.1 hu) (opq_bl ok I)
    · cases e
  · cases e
theorem od_notIn (hu : X.A.units + 65 < cLine) : OpD X (compareOp .NotIn) (opIn true) := by
  intro g pins s x y v w u t r ok I hx hy rv rw e
  unfold opIn at e
  obtain ⟨as, r1⟩ := hx.reads I rv
  obtain ⟨bs, r2⟩ := hy.reads I rw
  split at e
  · split at e
    · cases e
      rename_i c
      rw [Bool.and_eq_true] at c
      exact SeqAt.notIn_list_reads r2 r1 (canLay_lst c.2) (SeqAt.canLay_of_shaped c.1) (shaped_in c.1 hu) (opq_bl ok I)
    · cases e
  · split at e
    · cases e
      rename_i c
      rw [Bool.and_eq_true] at c
      exact SeqAt.notIn_tuple_reads r2 r1 (canLay_tup c.2) (SeqAt.canLay_of_shaped c.1) (shaped_in c.1 hu) (opq_bl ok I)
    · cases e
  · cases e
/-- ints -/
def opInt (k : Int → Int → Bool) : PyData → PyData → Option RV
  | .int i, .int j => some (.d (.bool (k i j)))
  | _, _ => none
theorem od_cmpI {f : Value → Value → Sem Value} {k : Int → Int → Bool} (h : OpR X f (rI0 fun i j => .bl (k i j))) : OpD X f (opInt k) := by
  intro g pins s x y v w u t r ok I hx hy rv rw e
  unfold opInt at e
  split at e
  · cases e
    obtain rfl := dw_int hx
    obtain rfl := dw_int hy
    exact thn (h pins s g.st g.H _ _ u t (fun v' H' => v' = .bl _ ∧ H' = g.H) I rv rw ⟨_, _, rfl, rfl, rfl, rfl⟩) fun z s' ⟨v', H', I', r', e1, e2⟩ => by subst e1 e2; exact .same ok I' r' dv_bl
  · cases e
theorem od_lt : OpD X (compareOp .Lt) (opInt fun i j => decide (i < j)) := od_cmpI op_lt
theorem od_le : OpD X (compareOp .LtE) (opInt fun i j => decide (i ≤ j)) := od_cmpI op_le
theorem od_gt : OpD X (compareOp .Gt) (opInt fun i j => decide (j < i)) := od_cmpI op_gt
theorem od_ge : OpD X (compareOp .GtE) (opInt fun i j => decide (j ≤ i)) := od_cmpI op_ge
def isNone : PyData → Bool
  | .none => true
  | _ => false
def opIs (neg : Bool) : PyData → PyData → Option RV
  | x, .none => some (.d (.bool (if neg then !isNone x else isNone x)))
  | .bool a, .bool b => some (.d (.bool (if neg then !(a == b) else a == b)))
  | _, _ => none
theorem dw_isNone {K : PySem.W.Frag} {A : AS} {H : Hp} {x : PyData} {v : V} (h : Dw K A H x v) : decide (v = .non) = isNone x := by
  cases x with
  | list ds => obtain ⟨a, vs, rfl, _⟩ := h; rfl
  | tuple ds => obtain ⟨a, vs, rfl, _⟩ := dw_tup h; rfl
  | dict ds =>
    have h : Dv K A H (.dict ds) v := h
    simp only [Dv] at h
    obtain ⟨_, a, rfl, _⟩ := h; rfl
  | none => rw [dw_scal (x := .none) rfl h]; rfl
  | bool b => rw [dw_scal (x := .bool b) rfl h]; rfl
  | int i => rw [dw_scal (x := .int i) rfl h]; rfl
  | str z => rw [dw_scal (x := .str z) rfl h]; rfl
end
end BH

set_option maxRecDepth 100000
set_option maxHeartbeats 2000000
namespace BH
open PySem PySem.Spec PyProof.Rows L2

section
variable {X : Cx}
theorem od_is : OpD X (compareOp .Is) (opIs false) := by
  intro g pins s x y v w u t r ok I hx hy rv rw e
  unfold opIs at e
  split at e
  · cases e
    obtain rfl := dw_scal (x := .none) rfl hy
    refine thn (op_isN pins s g.st g.H _ _ u t (fun v' H' => v' = .bl (isNone x) ∧ H' = g.H) I rv rw ⟨rfl, by rw [dw_isNone hx], rfl⟩) fun z s' ⟨v', H', I', r', e1, e2⟩ => ?_
    subst e1 e2
    cases r'
    exact opq_bl ok I'
  · cases e
    rename_i a b
    obtain rfl := dw_scal (x := .bool a) rfl hx
    obtain rfl := dw_scal (x := .bool b) rfl hy
    refine thn (op_isBl pins s g.st g.H _ _ u t (fun v' H' => v' = .bl (a == b) ∧ H' = g.H) I rv rw ⟨a, b, rfl, rfl, by rw [Bool.beq_eq_decide_eq], rfl⟩) fun z s' ⟨v', H', I', r', e1, e2⟩ => ?_
    subst e1 e2
    cases r'
    exact opq_bl ok I'
  · cases e
theorem od_isNot : OpD X (compareOp .IsNot) (opIs true) := by
  intro g pins s x y v w u t r ok I hx hy rv rw e
  unfold opIs at e
  split at e
  · cases e
    obtain rfl := dw_scal (x := .none) rfl hy
    refine thn (op_notN pins s g.st g.H _ _ u t (fun v' H' => v' = .bl (!isNone x) ∧ H' = g.H) I rv rw ⟨rfl, by rw [dw_isNone hx], rfl⟩) fun z s' ⟨v', H', I', r', e1, e2⟩ => ?_
    subst e1 e2
    cases r'
    exact opq_bl ok I'
  · cases e
    rename_i a b
    obtain rfl := dw_scal (x := .bool a) rfl hx
    obtain rfl := dw_scal (x := .bool b) rfl hy
    refine thn (op_notBl pins s g.st g.H _ _ u t (fun v' H' => v' = .bl (!(a == b)) ∧ H' = g.H) I rv rw ⟨a, b, rfl, rfl, by rw [Bool.beq_eq_decide_eq], rfl⟩) fun z s' ⟨v', H', I', r', e1, e2⟩ => ?_
    subst e1 e2
    cases r'
    exact opq_bl ok I'
  · cases e
end

/-! ### truth -/
def truD : PyData → Option Bool
  | .none => some false
  | .bool b => some b
  | .int i => some (i != 0)
  | .str x => if x.length ≤ lim then some ((x.length : Int) != 0) else none
  | .list xs => some !xs.isEmpty
  | .tuple xs => some !xs.isEmpty
  | .dict kvs => some !kvs.isEmpty
theorem truV_of {X : Cx} {A : AS} {H : Hp} {x : PyData} {v : V} {k : Bool} (h : Dw X.K A H x v) (e : truD x = some k) : TruV X.K v H k := by
  cases x with
  | none => cases e; rw [dw_scal (x := .none) rfl h]; rfl
  | bool b => rw [dw_scal (x := .bool b) rfl h]; exact (Option.some.inj e).symm
  | int i => rw [dw_scal (x := .int i) rfl h]; exact (Option.some.inj e).symm
  | str z =>
    rw [dw_scal (x := .str z) rfl h]
    have e : (if z.length ≤ lim then some ((z.length : Int) != 0) else none) = some k := e
    split at e
    · rename_i c; exact ⟨by rw [← lim_line]; exact c, (Option.some.inj e).symm⟩
    · cases e
  | list ds =>
    cases e
    obtain ⟨a, vs, rfl, q, r⟩ := h
    refine .inl ⟨vs, q, ?_⟩
    have := r.length
    cases ds <;> cases vs <;> simp_all
  | tuple ds =>
    cases e
    obtain ⟨a, vs, rfl, q, r⟩ := dw_tup h
    refine .inr (.inl ⟨vs, q, ?_⟩)
    have := r.length
    cases ds <;> cases vs <;> simp_all
  | dict ds =>
    have h : Dv X.K A H (.dict ds) v := h
    simp only [Dv] at h
    obtain ⟨rfl, a, rfl, n, q⟩ := h
    cases e
    exact .inr (.inr ⟨[], q, rfl⟩)
theorem truthy_dw {X : Cx} {pins : List (Addr × Obj)} {g : G} {s : Shared} {x : PyData} {v : V} {u : Value} {k : Bool} (I : Inv X pins g.st g.H s) (h : Dw X.K g.A g.H x v) (r : RelV v u) (e : truD x = some k) {Q : Bool → Shared → Prop}
    (hQ : ∀ s', Inv X pins g.st g.H s' → Q k s') : wpAny (model X.prog X.w) X.A (truthy u) Q X.xe s := by
  refine thn (tru_ok pins s g.st g.H v u (fun b H' => b = k ∧ H' = g.H) I r ⟨k, truV_of h e, rfl, rfl⟩) ?_
  rintro b s' ⟨H', I', e1, e2⟩
  subst e1 e2
  exact hQ s' I'

/-! ### tests -/
abbrev TF := SE → Res (Bool × SE)
def tTt (X : Cx) (W : WX) (f : TF) : TT := fun σ H Q => ∃ g : G, g.st = σ ∧ g.H = H ∧ g.Ok X.K ∧ Out X W g (f g.env) fun g' b => Q b g'.H
structure FT (X : Cx) (e : Expr) (f : TF) : Prop where
  pt : ∀ W, Takes X W → PT X e (tTt X W f)
structure FW (X : Cx) (e : Expr) (f : TF) : Prop where
  pw : ∀ W, Takes X W → PW X e (tTt X W f)
theorem FW.pt {X : Cx} {e : Expr} {f : TF} (h : FW X e f) : FT X e f := ⟨fun W tk => (h.pw W tk).pt⟩
theorem FT.go {X : Cx} {e : Expr} {f : TF} (h : FT X e f) {W : WX} (tk : Takes X W) {g : G} (ok : g.Ok X.K) {pins : List (Addr × Obj)} {s : Shared} (I : Inv X pins g.st g.H s) {P : G → Bool → Prop} (o : Out X W g (f g.env) P)
    {Q : Bool → Shared → Prop} (hQ : ∀ b s' g', g'.st = g.st → Inv X pins g'.st g'.H s' → g'.Ok X.K → Stp g g' → P g' b → Q b s') :
    wpAny (model X.prog X.w) X.A (isTrue e X.env (eval e X.env)) Q X.xe s := by
  refine thn ((h.pt W tk).run pins s g.st g.H (fun b H' => ∃ g', g'.H = H' ∧ g'.st = g.st ∧ g'.Ok X.K ∧ Stp g g' ∧ P g' b) I ⟨g, rfl, rfl, ok, o.imp fun g' x st e o p => ⟨g', rfl, e, o, st, p⟩⟩) ?_
  rintro b s' ⟨H', I', g', rfl, e, o', st, p⟩
  exact hQ b s' g' e (e ▸ I') o' st p
theorem FW.go {X : Cx} {e : Expr} {f : TF} (h : FW X e f) {W : WX} (tk : Takes X W) {g : G} (ok : g.Ok X.K) {pins : List (Addr × Obj)} {s : Shared} (I : Inv X pins g.st g.H s) {P : G → Bool → Prop} (o : Out X W g (f g.env) P) (whole : Sem Value)
    {Q : Bool → Shared → Prop} (hQ : ∀ b s' g', g'.st = g.st → Inv X pins g'.st g'.H s' → g'.Ok X.K → Stp g g' → P g' b → Q b s') :
    wpAny (model X.prog X.w) X.A (isTrue e X.env whole) Q X.xe s := by
  refine thn ((h.pw W tk).run whole pins s g.st g.H (fun b H' => ∃ g', g'.H = H' ∧ g'.st = g.st ∧ g'.Ok X.K ∧ Stp g g' ∧ P g' b) I ⟨g, rfl, rfl, ok, o.imp fun g' x st e o p => ⟨g', rfl, e, o, st, p⟩⟩) ?_
  rintro b s' ⟨H', I', g', rfl, e, o', st, p⟩
  exact hQ b s' g' e (e ▸ I') o' st p
theorem ft_mk {X : Cx} {e : Expr} {f : TF} (h : ∀ W, Takes X W → ∀ (g : G) (pins : List (Addr × Obj)) (s : Shared) (P : G → Bool → Prop), g.Ok X.K → Inv X pins g.st g.H s → Out X W g (f g.env) P →
    wpAny (model X.prog X.w) X.A (isTrue e X.env (eval e X.env)) (fun b s' => ∃ g', Inv X pins g.st g'.H s' ∧ P g' b) X.xe s) : FT X e f := by
  refine ⟨fun W tk => ⟨fun pins s σ H Q I hq => ?_⟩⟩
  obtain ⟨g, rfl, rfl, ok, o⟩ := hq
  exact thn (h W tk g pins s _ ok I o) fun b s' ⟨g', I', p⟩ => ⟨g'.H, I', p⟩
theorem fw_mk {X : Cx} {e : Expr} {f : TF} (h : ∀ W, Takes X W → ∀ (whole : Sem Value) (g : G) (pins : List (Addr × Obj)) (s : Shared) (P : G → Bool → Prop), g.Ok X.K → Inv X pins g.st g.H s → Out X W g (f g.env) P →
    wpAny (model X.prog X.w) X.A (isTrue e X.env whole) (fun b s' => ∃ g', Inv X pins g.st g'.H s' ∧ P g' b) X.xe s) : FW X e f := by
  refine ⟨fun W tk => ⟨fun whole pins s σ H Q I hq => ?_⟩⟩
  obtain ⟨g, rfl, rfl, ok, o⟩ := hq
  exact thn (h W tk whole g pins s _ ok I o) fun b s' ⟨g', I', p⟩ => ⟨g'.H, I', p⟩
def truR (rv : RV) (env : SE) : Res (Bool × SE) := match rv.view env with
  | some x => match truD x with
    | some b => .ok (b, env)
    | none => .fail
  | none => .fail
def fTru (f : EF) : TF := fun env => (f env).bind fun p => truR p.1 p.2
/-- the end of a test: the value's truth -/
theorem tru_end {X : Cx} {W : WX} {g g1 : G} {pins : List (Addr × Obj)} {s : Shared} {P : G → Bool → Prop} {rv : RV} {v : V} {u : Value} (I : Inv X pins g1.st g1.H s) (r : RelV v u) (e1 : g1.st = g.st) (st : Stp g g1) (ok1 : g1.Ok X.K) (rr : RVR X.K g.H g1 rv v)
    (p : Out X W g (truR rv g1.env) P) :
    wpAny (model X.prog X.w) X.A (truthy u) (fun b s' => ∃ g', Inv X pins g.st g'.H s' ∧ P g' b) X.xe s := by
  unfold truR at p
  cases hx : rv.view g1.env with
  | none => rw [hx] at p; exact p.elim
  | some x =>
    rw [hx] at p
    simp only at p
    cases hb : truD x with
    | none => rw [hb] at p; exact p.elim
    | some b =>
      rw [hb] at p
      exact truthy_dw I (rr.dw ok1 hx) r hb fun s' I' => ⟨g1, by rw [← e1]; exact I', p g1 rfl e1 st ok1⟩
theorem ft_val {X : Cx} {e : Expr} {f : EF} (h : FE X e f) (he : ∀ whole, isTrue e X.env whole = (do let v ← whole; standAt e.pos; holding [v] (truthy v)) := by intro _; rfl) : FT X e (fTru f) :=
  ft_mk fun W tk g pins s P ok I o => isTrue_plain (h.go tk ok I o.bind0 fun u s' g1 rv v e1 I1 r ok1 st rr p => tru_end I1 r e1 st ok1 rr p) (he _)
theorem ft_cmp {X : Cx} {a b : Expr} {op : CmpOp} {fa fb : EF} {o : PyData → PyData → Option RV} {pos : Pos} (ho : OpD X (compareOp op) o) (ha : FE X a fa) (hb : FE X b fb) (hm : behindInMarks op b = false := by rfl) : FT X (.Compare a [op] [b] pos) (fTru (fBin o fa fb)) :=
  ft_mk fun W tk g pins s P ok I h => by
    refine wpAny_isTrue_Compare1 ?_ hm
    have h2 := h.bind0
    refine two tk ha hb ho ok I (P := fun g' rv => Stp g g' ∧ g'.st = g.st ∧ g'.Ok X.K ∧ Out X W g (truR rv g'.env) P) (h2.imp fun g' x st e o p => ⟨st, e, o, p⟩) fun z s' g' rv v I' r rr ⟨st, e1, ok1, p⟩ => ?_
    exact tru_end (by rw [e1]; exact I') r e1 st ok1 rr p
/-! ### and, or, not -/
def fAnd (f t : TF) : TF := fun env => (f env).bind fun p => if p.1 = true then t p.2 else .ok (false, p.2)
def fOr (f t : TF) : TF := fun env => (f env).bind fun p => if p.1 = true then .ok (true, p.2) else t p.2
def fNot (f : TF) : TF := fun env => (f env).bind fun p => .ok (!p.1, p.2)
section
variable {X : Cx} {a b : Expr} {rest : List Expr} {fa fb : TF} {pos : Pos}
theorem fw_and1 (ha : FT X a fa) : FW X (.BoolOp .And [a] pos) fa := ⟨fun W tk => pw_and1 (ha.pt W tk)⟩
theorem fw_or1 (ha : FT X a fa) : FW X (.BoolOp .Or [a] pos) fa := ⟨fun W tk => pw_or1 (ha.pt W tk)⟩
theorem fw_and (ha : FT X a fa) (hb : FW X (.BoolOp .And (b :: rest) pos) fb) : FW X (.BoolOp .And (a :: b :: rest) pos) (fAnd fa fb) :=
  fw_mk fun W tk whole g pins s P ok I o => by
    refine isTrue_and (ha.go tk ok I o.bind0 fun c s1 g1 e1 I1 ok1 st p => ?_)
    cases c with
    | true => exact hb.go tk ok1 I1 ((show Out X W g (fb g1.env) P from p).rebase ok st e1) whole fun b s2 g2 e2 I2 ok2 st2 p2 => ⟨g2, by rw [← e1, ← e2]; exact I2, p2⟩
    | false => exact ⟨g1, by rw [← e1]; exact I1, (show Out X W g (.ok (false, g1.env)) P from p) g1 rfl e1 st ok1⟩
theorem fw_or (ha : FT X a fa) (hb : FW X (.BoolOp .Or (b :: rest) pos) fb) : FW X (.BoolOp .Or (a :: b :: rest) pos) (fOr fa fb) :=
  fw_mk fun W tk whole g pins s P ok I o => by
    refine isTrue_or (ha.go tk ok I o.bind0 fun c s1 g1 e1 I1 ok1 st p => ?_)
    cases c with
    | false => exact hb.go tk ok1 I1 ((show Out X W g (fb g1.env) P from p).rebase ok st e1) whole fun b s2 g2 e2 I2 ok2 st2 p2 => ⟨g2, by rw [← e1, ← e2]; exact I2, p2⟩
    | true => exact ⟨g1, by rw [← e1]; exact I1, (show Out X W g (.ok (true, g1.env)) P from p) g1 rfl e1 st ok1⟩
theorem ft_not (ha : FT X a fa) : FT X (.UnaryOp .Not a pos) (fNot fa) :=
  ft_mk fun W tk g pins s P ok I o => isTrue_not (ha.go tk ok I o.bind0 fun c s1 g1 e1 I1 ok1 st p => ⟨g1, by rw [← e1]; exact I1, p g1 rfl e1 st ok1⟩)
end
/-- as values -/
def fAndV (f t : EF) : EF := fun env => (f env).bind fun p => match p.1.view p.2 with
  | some x => match truD x with
    | some true => t p.2
    | some false => .ok (p.1, p.2)
    | none => .fail
  | none => .fail
def fOrV (f t : EF) : EF := fun env => (f env).bind fun p => match p.1.view p.2 with
  | some x => match truD x with
    | some true => .ok (p.1, p.2)
    | some false => t p.2
    | none => .fail
  | none => .fail
def fNotV (f : TF) : EF := fun env => (f env).bind fun p => .ok (.d (.bool !p.1), p.2)
def fIf (c : TF) (a b : EF) : EF := fun env => (c env).bind fun p => if p.1 = true then a p.2 else b p.2
section
variable {X : Cx} {a b c : Expr} {rest : List Expr} {fa fb : EF} {pos : Pos}
theorem fe_one {op} (ha : FE X a fa) : FE X (.BoolOp op [a] pos) fa := ⟨fun W tk => pe_one (ha.pe W tk)⟩
theorem fe_and (ha : FE X a fa) (hb : FE X (.BoolOp .And (b :: rest) pos) fb) : FE X (.BoolOp .And (a :: b :: rest) pos) (fAndV fa fb) :=
  fe_mk fun W tk g pins s P ok I o => by
    refine BoolOp_and (ha.go tk ok I o.bind0 fun u s1 g1 rv v e1 I1 r ok1 st rr p => ?_)
    cases hx : rv.view g1.env with
    | none => rw [hx] at p; exact p.elim
    | some x =>
      rw [hx] at p
      simp only at p
      cases hk : truD x with
      | none => rw [hk] at p; exact p.elim
      | some k =>
        rw [hk] at p
        refine truthy_dw I1 (rr.dw ok1 hx) r hk fun s2 I2 => ?_
        cases k with
        | true => exact hb.go tk ok1 I2 ((show Out X W g (fb g1.env) P from p).rebase ok st e1) fun u2 s3 g2 rv2 v2 e2 I3 r2 ok2 st2 rr2 p2 => ⟨v2, g2, rv2, by rw [← e1, ← e2]; exact I3, r2, rr2.old st.ext.dom, p2⟩
        | false => exact ⟨v, g1, rv, by rw [← e1]; exact I2, r, rr, (show Out X W g (.ok (rv, g1.env)) P from p) g1 rfl e1 st ok1⟩
theorem fe_or (ha : FE X a fa) (hb : FE X (.BoolOp .Or (b :: rest) pos) fb) : FE X (.BoolOp .Or (a :: b :: rest) pos) (fOrV fa fb) :=
  fe_mk fun W tk g pins s P ok I o => by
    refine BoolOp_or (ha.go tk ok I o.bind0 fun u s1 g1 rv v e1 I1 r ok1 st rr p => ?_)
    cases hx : rv.view g1.env with
    | none => rw [hx] at p; exact p.elim
    | some x =>
      rw [hx] at p
      simp only at p
      cases hk : truD x with
      | none => rw [hk] at p; exact p.elim
      | some k =>
        rw [hk] at p
        refine truthy_dw I1 (rr.dw ok1 hx) r hk fun s2 I2 => ?_
        cases k with
        | false => exact hb.go tk ok1 I2 ((show Out X W g (fb g1.env) P from p).rebase ok st e1) fun u2 s3 g2 rv2 v2 e2 I3 r2 ok2 st2 rr2 p2 => ⟨v2, g2, rv2, by rw [← e1, ← e2]; exact I3, r2, rr2.old st.ext.dom, p2⟩
        | true => exact ⟨v, g1, rv, by rw [← e1]; exact I2, r, rr, (show Out X W g (.ok (rv, g1.env)) P from p) g1 rfl e1 st ok1⟩
theorem fe_ifExp {fc : TF} (hc : FT X c fc) (ha : FE X a fa) (hb : FE X b fb) : FE X (.IfExp c a b pos) (fIf fc fa fb) :=
  fe_mk fun W tk g pins s P ok I o => by
    refine wpAny_IfExp (hc.go tk ok I o.bind0 fun k s1 g1 e1 I1 ok1 st p => ?_)
    cases k with
    | true => exact ha.go tk ok1 I1 ((show Out X W g (fa g1.env) P from p).rebase ok st e1) fun u2 s3 g2 rv2 v2 e2 I3 r2 ok2 st2 rr2 p2 => ⟨v2, g2, rv2, by rw [← e1, ← e2]; exact I3, r2, rr2.old st.ext.dom, p2⟩
    | false => exact hb.go tk ok1 I1 ((show Out X W g (fb g1.env) P from p).rebase ok st e1) fun u2 s3 g2 rv2 v2 e2 I3 r2 ok2 st2 rr2 p2 => ⟨v2, g2, rv2, by rw [← e1, ← e2]; exact I3, r2, rr2.old st.ext.dom, p2⟩
/-- not, as a value -/
theorem fe_not (ha : FE X a fa) : FE X (.UnaryOp .Not a pos) (fNotV (fTru fa)) :=
  fe_mk fun W tk g pins s P ok I o => by
    have o2 : Out X W g (fTru fa g.env) fun g' b => P g' (.d (.bool !b)) := by
      have := o.bind0
      refine this.imp fun g' x st e o p => p g' rfl e st o
    refine UnaryOp_ (ha.go tk ok I o2.bind0 fun u s1 g1 rv v e1 I1 r ok1 st rr p => ?_)
    refine not_of (thn (tru_end (P := fun g' b => P g' (.d (.bool !b))) I1 r e1 st ok1 rr p) fun b s2 ⟨g', I2, p2⟩ => ⟨.bl !b, g', .d (.bool !b), I2, rfl, by show Dv _ _ _ _ _; simp only [Dv], p2⟩)
end

/-! ### a <= b <= c of ints -/
def fChain (k k' : Int → Int → Bool) (fa fb fc : EF) : EF := fun env => (fa env).bind fun p => (fb p.2).bind fun q =>
  match p.1.view q.2, q.1.view q.2 with
  | some (.int i), some (.int j) => if k i j = true then (fc q.2).bind fun r => match r.1.view r.2 with
      | some (.int l) => .ok (.d (.bool (k' j l)), r.2)
      | _ => .fail
    else .ok (.d (.bool false), q.2)
  | _, _ => .fail
/-- a row of ints, for the chain's rules -/
def tIs (X : Cx) (W : WX) (f : EF) : TE := tE X W f
theorem fe_chain {X : Cx} {a b c : Expr} {op op' : CmpOp} {k k' : Int → Int → Bool} {fa fb fc : EF} {pos : Pos} (ho : OpR X (compareOp op) (rI0 fun i j => .bl (k i j))) (ho' : OpR X (compareOp op') (rI0 fun i j => .bl (k' i j)))
    (hpe : ∀ {ta tb tc : TE}, PE X a ta → PE X b tb → PE X c tc → PE X (.Compare a [op, op'] [b, c] pos) (tChain (rI0 fun i j => .bl (k i j)) (rI0 fun i j => .bl (k' i j)) ta tb tc))
    (ha : FE X a fa) (hb : FE X b fb) (hc : FE X c fc) : FE X (.Compare a [op, op'] [b, c] pos) (fChain k k' fa fb fc) := by
  refine ⟨fun W tk => ⟨fun pins s σ H Q I hq => ?_⟩⟩
  obtain ⟨g, rfl, rfl, ok, o⟩ := hq
  refine (hpe (ha.pe W tk) (hb.pe W tk) (hc.pe W tk)).run pins s g.st g.H Q I ⟨g, rfl, rfl, ok, o.bind0.imp fun g1 r1 st1 e1 ok1 p1 v1 rr1 => ?_⟩
  refine ⟨g1, e1, rfl, ok1, (p1.rebase ok st1 e1).bind0.imp fun g2 r2 st2 e2 ok2 p2 v2 rr2 => ?_⟩
  have rr1' := rr1.step ok1 st2 e2
  split at p2
  · rename_i i j h1 h2
    obtain rfl := dw_int (rr1'.dw ok2 h1)
    obtain rfl := dw_int (rr2.dw ok2 h2)
    refine ⟨i, j, rfl, rfl, k i j, rfl, ?_⟩
    by_cases hk : k i j = true
    · rw [if_pos hk] at p2 ⊢
      have e12 := e2.trans e1
      refine ⟨g2, e12, rfl, ok2, ((p2.rebase ok1 st2 e2).bind0).imp fun g3 r3 st3 e3 ok3 p3 v3 rr3 => ?_⟩
      split at p3
      · rename_i l h3
        obtain rfl := dw_int (rr3.dw ok3 h3)
        exact ⟨j, l, rfl, rfl, p3 g3 rfl e3 st3 ok3 _ (by show Dv _ _ _ _ _; simp only [Dv])⟩
      · exact p3.elim
    · rw [if_neg hk] at p2 ⊢
      exact p2 g2 rfl e2 st2 ok2 _ (by show Dv _ _ _ _ _; simp only [Dv])
  · exact p2.elim
end BH

set_option maxRecDepth 100000
set_option maxHeartbeats 2000000
namespace BH
open PySem PySem.Spec PyProof.Rows L2

/-! ### two operands by a rule of HandS -/
def R2D (X : Cx) (r : R2) (op : PyData → PyData → Option RV) : Prop :=
  ∀ (g : G) (x y : PyData) (v w : V) (res : RV) (Q : VK), g.Ok X.K → Dw X.K g.A g.H x v → Dw X.K g.A g.H y w → op x y = some res →
    (∀ v' (g' : G), g'.st = g.st → g'.env = g.env → Stp g g' → g'.Ok X.K → RVR X.K g.H g' res v' → Q v' g'.H) → r v w g.H Q
theorem fe_of2 {X : Cx} {e a b : Expr} {r : R2} {op : PyData → PyData → Option RV} {fa fb : EF} (hpe : ∀ {ta tb : TE}, PE X a ta → PE X b tb → PE X e (tOp r ta tb)) (ho : R2D X r op) (ha : FE X a fa) (hb : FE X b fb) : FE X e (fBin op fa fb) := by
  refine ⟨fun W tk => ⟨fun pins s σ H Q I hq => ?_⟩⟩
  obtain ⟨g, rfl, rfl, ok, o⟩ := hq
  refine (hpe (ha.pe W tk) (hb.pe W tk)).run pins s g.st g.H Q I ⟨g, rfl, rfl, ok, o.bind0.imp fun g1 r1 st1 e1 ok1 p1 v1 rr1 => ?_⟩
  refine ⟨g1, e1, rfl, ok1, (p1.rebase ok st1 e1).bind0.imp fun g2 r2 st2 e2 ok2 p2 v2 rr2 => ?_⟩
  have rr1' := rr1.step ok1 st2 e2
  split at p2
  · rename_i x y h1 h2
    split at p2
    · rename_i res hr
      refine ho g2 x y v1 v2 res Q ok2 (rr1'.dw ok2 h1) (rr2.dw ok2 h2) hr fun v' g' e3 e4 st3 ok3 rr3 => ?_
      exact p2 g' e4 (e3.trans e2) (st2.trans ok1 st3) ok3 v' (rr3.old fun a h => st2.ext.dom a (st1.ext.dom a h))
    · exact p2.elim
  · exact p2.elim

/-! ### x[i] -/
def opIx : PyData → PyData → Option RV
  | .list xs, .int i => (atI xs i).map .d
  | .tuple xs, .int i => (atI xs i).map .d
  | .str z, .int i => if z.length ≤ lim then (atI z.cps.toList i).map fun c => .d (.str ⟨#[c]⟩) else none
  | _, _ => none
theorem atI_dvs {K : PySem.W.Frag} {A : AS} {H : Hp} {xs : List PyData} {vs : List V} {i : Int} {x : PyData} (h : Dvs K A H xs vs) (e : atI xs i = some x) : ∃ v, atI vs i = some v ∧ Dv K A H x v := by
  unfold atI at e ⊢
  rw [← h.length]
  cases hj : ixN xs.length i with
  | none => rw [hj] at e; cases e
  | some j =>
    rw [hj] at e
    exact h.getD e
theorem rd_ix {X : Cx} : R2D X (rIx X.K) opIx := by
  intro g x y v w res Q ok hx hy e hQ
  unfold opIx at e
  split at e
  · obtain ⟨a, vs, rfl, q, r⟩ := dw_lst hx
    obtain rfl := dw_int hy
    cases hi : atI _ _ with
    | none => rw [hi] at e; cases e
    | some z =>
      rw [hi] at e; cases e
      obtain ⟨v', h1, h2⟩ := atI_dvs r hi
      exact .inl ⟨a, vs, _, v', rfl, rfl, q, h1, hQ v' g rfl rfl (.refl g) ok h2⟩
  · obtain ⟨a, vs, rfl, q, r⟩ := dw_tup hx
    obtain rfl := dw_int hy
    cases hi : atI _ _ with
    | none => rw [hi] at e; cases e
    | some z =>
      rw [hi] at e; cases e
      obtain ⟨v', h1, h2⟩ := atI_dvs r hi
      exact .inr (.inl ⟨a, vs, _, v', rfl, rfl, q, h1, hQ v' g rfl rfl (.refl g) ok h2⟩)
  · split at e
    · rename_i hz
      obtain rfl := dw_str hx
      obtain rfl := dw_int hy
      cases hi : atI _ _ with
      | none => rw [hi] at e; cases e
      | some z =>
        rw [hi] at e; cases e
        exact .inr (.inr ⟨_, _, z, rfl, rfl, by rw [← lim_line]; exact hz, hi, hQ _ g rfl rfl (.refl g) ok (by show Dv _ _ _ _ _; simp only [Dv])⟩)
    · cases e
  · cases e
theorem fe_ix {X : Cx} {a b : Expr} {fa fb : EF} {pos : Pos} (ha : FE X a fa) (hb : FE X b fb) (hs : PlainIx b := by exact fun _ _ => rfl) : FE X (.Subscript a b pos) (fBin opIx fa fb) :=
  fe_of2 (r := rIx X.K) (fun h1 h2 => pe_ix ix_seq h1 h2 hs) rd_ix ha hb

/-! ### x[lo:hi] -/
def cutD {α : Type} (xs : List α) (lo hi : Option Int) : List α := (xs.drop (HT.sIx xs.length 0 lo)).take (HT.sIx xs.length xs.length hi - HT.sIx xs.length 0 lo)
theorem cut_length {α : Type} (xs : List α) (lo hi : Option Int) : (cutD xs lo hi).length ≤ xs.length := by
  unfold cutD
  rw [List.length_take, List.length_drop]; omega
theorem cut_dvs {K : PySem.W.Frag} {A : AS} {H : Hp} {xs : List PyData} {vs : List V} (h : Dvs K A H xs vs) (lo hi : Option Int) : Dvs K A H (cutD xs lo hi) (cutV vs lo hi) := by
  unfold cutD cutV
  rw [← h.length]
  exact (h.drop _).take _
theorem cut_whole {α : Type} {xs : List α} {lo hi : Option Int} (h : HT.sIx xs.length 0 lo = 0 ∧ HT.sIx xs.length xs.length hi = xs.length) : cutD xs lo hi = xs := by
  unfold cutD
  rw [h.1, h.2]; simp
def opSl : PyData → Option Int → Option Int → Option RV
  | .list xs, lo, hi => some (.tmp (.lst (cutD xs lo hi)))
  | .tuple xs, lo, hi => some (.d (.tuple (cutD xs lo hi)))
  | .str z, lo, hi => if z.length ≤ lim then some (.d (.str (cutS z lo hi))) else none
  | _, _, _ => none
abbrev OF := SE → Res (Option Int × SE)
def tOf (X : Cx) (W : WX) (f : OF) : TO := fun σ H Q => ∃ g : G, g.st = σ ∧ g.H = H ∧ g.Ok X.K ∧ Out X W g (f g.env) fun g' o => Q o g'.H
structure FO (X : Cx) (e : Option Expr) (f : OF) : Prop where
  po : ∀ W, Takes X W → PO X e (tOf X W f)
def fNoPart : OF := fun env => .ok (none, env)
def fPart (f : EF) : OF := fun env => (f env).bind fun p => match p.1.view p.2 with
  | some (.int i) => .ok (some i, p.2)
  | _ => .fail
theorem fo_none {X : Cx} : FO X none fNoPart := ⟨fun W tk => ⟨fun pins s σ H Q I hq => by
  obtain ⟨g, rfl, rfl, ok, o⟩ := hq
  exact po_none.run pins s g.st g.H Q I (o g rfl rfl (.refl g) ok)⟩⟩
theorem fo_some {X : Cx} {e : Expr} {f : EF} (h : FE X e f) : FO X (some e) (fPart f) := ⟨fun W tk => ⟨fun pins s σ H Q I hq => by
  obtain ⟨g, rfl, rfl, ok, o⟩ := hq
  refine (po_some (h.pe W tk)).run pins s g.st g.H Q I ⟨g, rfl, rfl, ok, o.bind0.imp fun g1 r1 st1 e1 ok1 p1 v1 rr1 => ?_⟩
  split at p1
  · rename_i i h1
    obtain rfl := dw_int (rr1.dw ok1 h1)
    exact ⟨i, rfl, p1 g1 rfl e1 st1 ok1⟩
  · exact p1.elim⟩⟩
def fSl (f : EF) (lo hi : OF) : EF := fun env => (f env).bind fun p => (lo p.2).bind fun q => (hi q.2).bind fun r => match p.1.view r.2 with
  | some x => match opSl x q.1 r.1 with
    | some res => .ok (res, r.2)
    | none => .fail
  | none => .fail
theorem fe_slice {X : Cx} {e : Expr} {lo hi : Option Expr} {f : EF} {fl fh : OF} {p2 pos : Pos} (h : FE X e f) (hl : FO X lo fl) (hh : FO X hi fh) : FE X (.Subscript e (.Slice lo hi none p2) pos) (fSl f fl fh) := by
  refine ⟨fun W tk => ⟨fun pins s σ H Q I hq => ?_⟩⟩
  obtain ⟨g, rfl, rfl, ok, o⟩ := hq
  refine (pe_slice ((sl_list (X := X)).or ((sl_tupA (X := X)).or sl_str)) (h.pe W tk) (hl.po W tk) (hh.po W tk)).run pins s g.st g.H Q I ⟨g, rfl, rfl, ok, o.bind0.imp fun g1 r1 st1 e1 ok1 p1 v1 rr1 => ?_⟩
  refine ⟨g1, e1, rfl, ok1, (p1.rebase ok st1 e1).bind0.imp fun g2 o2 st2 e2 ok2 p2 => ?_⟩
  refine ⟨g2, e2.trans e1, rfl, ok2, (p2.rebase ok1 st2 e2).bind0.imp fun g3 o3 st3 e3 ok3 p3 => ?_⟩
  have rr3 := (rr1.step ok1 st2 e2).step ok2 st3 e3
  have dom : ∀ a, g.H a ≠ none → g3.H a ≠ none := fun a h => st3.ext.dom a (st2.ext.dom a (st1.ext.dom a h))
  cases hx : r1.view g3.env with
  | none => rw [hx] at p3; exact p3.elim
  | some x =>
    rw [hx] at p3
    have dx := rr3.dw ok3 hx
    simp only at p3
    cases hr : opSl x o2 o3 with
    | none => rw [hr] at p3; exact p3.elim
    | some res =>
      rw [hr] at p3
      have fin : ∀ v' (g' : G), g'.st = g3.st → g'.env = g3.env → Stp g3 g' → g'.Ok X.K → RVR X.K g3.H g' res v' → Q v' g'.H := fun v' g' e4 e5 st4 ok4 rr4 =>
        p3 g' e5 (e4.trans e3) (st3.trans ok2 st4) ok4 v' (rr4.old dom)
      unfold opSl at hr
      split at hr
      · cases hr
        obtain ⟨a, vs, rfl, q, r⟩ := dw_lst dx
        refine .inl ⟨a, vs, rfl, q, fun p hp => ?_⟩
        obtain ⟨s2, ok4, r4⟩ := alloc_lst ok3 hp (cut_dvs r o2 o3)
        exact fin _ { g3 with A := fun b => g3.A b ∨ b = p, H := upd g3.H p (.lst (cutV vs o2 o3)) } rfl rfl s2 ok4 r4
      · cases hr
        obtain ⟨a, vs, rfl, q, r⟩ := dw_tup dx
        refine .inr (.inl ⟨a, vs, rfl, q, fun hw => ?_, fun _ p hp => ?_⟩)
        · refine fin _ g3 rfl rfl (.refl g3) ok3 ?_
          rw [← r.length] at hw
          rw [cut_whole hw]
          exact dx
        · obtain ⟨s2, ok4, r4⟩ := alloc_tup ok3 hp (cut_dvs r o2 o3)
          exact fin _ { g3 with H := upd g3.H p (.tup (cutV vs o2 o3)) } rfl rfl s2 ok4 r4
      · split at hr
        · cases hr
          rename_i hz
          obtain rfl := dw_str dx
          exact .inr (.inr ⟨_, rfl, by rw [← lim_line]; exact hz, fin _ g3 rfl rfl (.refl g3) ok3 (by show Dv _ _ _ _ _; simp only [Dv])⟩)
        · cases hr
      · cases hr

/-! ### arguments that are read -/
/-- no new object among them is v -/
def TmpNe (v : V) : List RV → List V → Prop
  | .tmp _ :: rs, w :: t => w ≠ v ∧ TmpNe v rs t
  | _ :: rs, _ :: t => TmpNe v rs t
  | _, _ => True
def RVRs (K : PySem.W.Frag) (H0 : Hp) (g : G) : List RV → List V → Prop
  | [], vs => vs = []
  | r :: rs, vs => ∃ v t, vs = v :: t ∧ RVR K H0 g r v ∧ RVRs K H0 g rs t ∧ ∀ c, r = .tmp c → TmpNe v rs t
theorem tmpNe_of {K : PySem.W.Frag} {H0 : Hp} {g : G} {a : Addr} (ha : H0 a ≠ none) : ∀ {rs : List RV} {t : List V}, RVRs K H0 g rs t → TmpNe (.ref a) rs t
  | [], _, h => by simp [TmpNe]
  | r :: rs, _, ⟨v, t, rfl, h1, h2, _⟩ => by
    have ih := tmpNe_of ha h2
    cases r with
    | tmp c =>
      obtain ⟨b, rfl, _, _, hb, _⟩ := h1
      exact ⟨fun z => by cases z; exact ha hb, ih⟩
    | _ => exact ih
abbrev EFs := SE → Res (List RV × SE)
def tPs (X : Cx) (W : WX) (f : EFs) : TA := fun σ H Q => ∃ g : G, g.st = σ ∧ g.H = H ∧ g.Ok X.K ∧ Out X W g (f g.env) fun g' rs => ∀ vs, RVRs X.K g.H g' rs vs → Q vs g'.H
structure FPs (X : Cx) (es : List Expr) (f : EFs) : Prop where
  pa : ∀ W, Takes X W → PA X es (tPs X W f)
def fPNil : EFs := fun env => .ok ([], env)
def fPCons (f : EF) (t : EFs) : EFs := fun env => (f env).bind fun p => (t p.2).bind fun q => .ok (p.1 :: q.1, q.2)
theorem fps_nil {X : Cx} : FPs X [] fPNil := ⟨fun W tk => ⟨fun pos pins s σ H Q I hq => by
  obtain ⟨g, rfl, rfl, ok, o⟩ := hq
  exact pa_nil.run pos pins s g.st g.H Q I (o g rfl rfl (.refl g) ok [] rfl)⟩⟩
theorem RVRs.old {K : PySem.W.Frag} {H0 H1 : Hp} {g : G} (d : ∀ a, H0 a ≠ none → H1 a ≠ none) : ∀ {rs : List RV} {vs : List V}, RVRs K H1 g rs vs → RVRs K H0 g rs vs
  | [], _, h => h
  | _ :: _, _, ⟨v, t, e, h1, h2, h3⟩ => ⟨v, t, e, h1.old d, RVRs.old d h2, h3⟩
theorem FPs.go {X : Cx} {es : List Expr} {f : EFs} (h : FPs X es f) {W : WX} (tk : Takes X W) {g : G} (ok : g.Ok X.K) {pos : Pos} {pins : List (Addr × Obj)} {s : Shared} (I : Inv X pins g.st g.H s) {P : G → List RV → Prop} (o : Out X W g (f g.env) P)
    {Q : List Value → Shared → Prop} (hQ : ∀ u s' g' x v, g'.st = g.st → Inv X pins g'.st g'.H s' → Vals v u → g'.Ok X.K → Stp g g' → RVRs X.K g.H g' x v → P g' x → Q u s') :
    wpAny (model X.prog X.w) X.A (spliced (backTo pos (starEach es X.env))) Q X.xe s := by
  refine thn ((h.pa W tk).run pos pins s g.st g.H (fun v H' => ∃ g' x, g'.H = H' ∧ g'.st = g.st ∧ g'.Ok X.K ∧ Stp g g' ∧ RVRs X.K g.H g' x v ∧ P g' x) I ⟨g, rfl, rfl, ok, o.imp fun g' x st e o p v r => ⟨g', x, rfl, e, o, st, r, p⟩⟩) ?_
  rintro u s' ⟨v, H', I', r, g', x, rfl, e, o', st, rr, p⟩
  exact hQ u s' g' x v e (e ▸ I') r o' st rr p
theorem fps_cons {X : Cx} {e : Expr} {es : List Expr} {f : EF} {t : EFs} (h : FE X e f) (ht : FPs X es t) (hs : starEach (e :: es) X.env = (false, eval e X.env) :: starEach es X.env := by rfl) : FPs X (e :: es) (fPCons f t) := by
  refine ⟨fun W tk => ⟨fun pos pins s σ H Q I hq => ?_⟩⟩
  obtain ⟨g, rfl, rfl, ok, o⟩ := hq
  rw [hs]
  show wpAny _ _ (spliced ((false, eval e X.env) :: backTo pos (starEach es X.env))) _ _ s
  refine Calls.spliced_cons (h.go tk ok I o.bind0 fun u s1 g1 x v e1 I1 r o1 st rr p => ?_)
  refine ht.go tk o1 I1 (p.rebase ok st e1).bind0 fun us s2 g2 xs vs e2 I2 r2 o2 st2 rr2 p2 => ?_
  exact ⟨v :: vs, g2.H, by rw [← e1, ← e2]; exact I2, .cons r r2, p2 g2 rfl e2 st2 o2 _ ⟨v, vs, rfl, rr.step o1 st2 e2, rr2.old st.ext.dom, fun c hc => by
    subst hc
    obtain ⟨a, rfl, _, h3, _⟩ := rr
    exact tmpNe_of h3.some rr2⟩⟩
def views : List RV → SE → Option (List PyData)
  | [], _ => some []
  | r :: rs, env => match r.view env, views rs env with
    | some x, some xs => some (x :: xs)
    | _, _ => none
def Dws (K : PySem.W.Frag) (A : AS) (H : Hp) : List PyData → List V → Prop
  | [], vs => vs = []
  | x :: xs, vs => ∃ v t, vs = v :: t ∧ Dw K A H x v ∧ Dws K A H xs t
theorem RVRs.dws {K : PySem.W.Frag} {H0 : Hp} {g : G} (ok : g.Ok K) : ∀ {rs : List RV} {vs : List V} {xs : List PyData}, RVRs K H0 g rs vs → views rs g.env = some xs → Dws K g.A g.H xs vs
  | [], vs, xs, h, e => by cases e; exact h
  | r :: rs, vs, xs, ⟨v, t, e1, h1, h2, _⟩, e => by
    unfold views at e
    split at e
    · rename_i x ys hx hy
      cases e
      exact ⟨v, t, e1, h1.dw ok hx, RVRs.dws ok h2 hy⟩
    · cases e

/-! ### built-in functions -/
def CallD (X : Cx) (fv : Value) (op : List PyData → Option RV) : Prop :=
  ∀ (g : G) (pins : List (Addr × Obj)) (s : Shared) (xs : List PyData) (vs : List V) (us : List Value) (r : RV), g.Ok X.K → Inv X pins g.st g.H s → Dws X.K g.A g.H xs vs → Vals vs us → op xs = some r →
    wpAny (model X.prog X.w) X.A (call fv us) (OpQ X pins g r) X.xe s
def fCall (op : List PyData → Option RV) (f : EFs) : EF := fun env => (f env).bind fun p => match views p.1 p.2 with
  | some xs => match op xs with
    | some r => .ok (r, p.2)
    | none => .fail
  | none => .fail
section
variable {X : Cx} {x : Str} {p pos : Pos} {e : Expr} {es : List Expr} {f : EFs} {id T : String} {op : List PyData → Option RV}
theorem call_end {fv : Value} (hc : CallD X fv op) {W : WX} {g g1 : G} {pins : List (Addr × Obj)} {s : Shared} {P : G → RV → Prop} {rs : List RV} {vs : List V} {us : List Value} (ok : g.Ok X.K) (e1 : g1.st = g.st) (I1 : Inv X pins g1.st g1.H s) (r : Vals vs us) (ok1 : g1.Ok X.K)
    (st : Stp g g1) (rr : RVRs X.K g.H g1 rs vs) (p : Out X W g (match views rs g1.env with
      | some xs => match op xs with
        | some r => .ok (r, g1.env)
        | none => .fail
      | none => .fail) P) :
    wpAny (model X.prog X.w) X.A (call fv us) (fun u s' => ∃ v g' rv, Inv X pins g.st g'.H s' ∧ RelV v u ∧ RVR X.K g.H g' rv v ∧ P g' rv) X.xe s := by
  cases hx : views rs g1.env with
  | none => rw [hx] at p; exact p.elim
  | some xs =>
    rw [hx] at p
    simp only at p
    cases hr : op xs with
    | none => rw [hr] at p; exact p.elim
    | some res =>
      rw [hr] at p
      refine thn (hc g1 pins s xs vs us res ok1 I1 (rr.dws ok1 hx) r hr) ?_
      rintro z s2 ⟨v, g2, e2, e3, I2, r2, st2, ok2, rr2⟩
      exact ⟨v, g2, res, by rw [← e1]; exact I2, r2, rr2.old st.ext.dom, p g2 e3 (e2.trans e1) (st.trans ok st2) ok2⟩
theorem fe_callB (hc : CallD X (.builtin id) op) (hg : Gl X x) (hm : X.mg x = none) (hv : bootBuiltins x = some (.builtin id)) (ha : FPs X (e :: es) f) (hn : x ≠ "__name__" := by decide) (hdb : (x == ("__debug__" : Str)) = false := by decide)
    (he : starEach (e :: es) X.env = (false, eval e X.env) :: starEach es X.env := by rfl) (hpl : (backTo pos (starEach es X.env)).any (·.1) = false := by rfl) : FE X (.Call (.Name x p) (e :: es) [] pos) (fCall op f) :=
  fe_mk fun W tk g pins s P ok I o => by
    refine wpAny_Call_Name_kw (ld_blt I hg hm hv ?_ hn hdb)
    exact PyProof.Rows.callWith_builtin1 (ha.go tk ok I o.bind0 fun us s1 g1 rs vs e1 I1 r ok1 st rr p => call_end hc ok e1 I1 r ok1 st rr p) he hpl
theorem fe_callTy (hc : CallD X (.type T) op) (hg : Gl X x) (hm : X.mg x = none) (hv : bootBuiltins x = some (.type T)) (ha : FPs X (e :: es) f) (hn : x ≠ "__name__" := by decide) (hdb : (x == ("__debug__" : Str)) = false := by decide)
    (he : starEach (e :: es) X.env = (false, eval e X.env) :: starEach es X.env := by rfl) (hpl : (backTo pos (starEach es X.env)).any (·.1) = false := by rfl) : FE X (.Call (.Name x p) (e :: es) [] pos) (fCall op f) :=
  fe_mk fun W tk g pins s P ok I o => by
    refine wpAny_Call_Name_kw (ld_blt I hg hm hv ?_ hn hdb)
    exact PyProof.Rows.callWith_type1 (ha.go tk ok I o.bind0 fun us s1 g1 rs vs e1 I1 r ok1 st rr p => call_end hc ok e1 I1 r ok1 st rr p) he hpl
end
/-- from a rule of HandS -/
theorem CallD.of {X : Cx} {fv : Value} {r : List V → Hp → VK → Prop} {op : List PyData → Option RV} (h : CallR X fv r)
    (hq : ∀ (g : G) (xs : List PyData) (vs : List V) (res : RV) (Q : VK), g.Ok X.K → Dws X.K g.A g.H xs vs → op xs = some res →
      (∀ v' (g' : G), g'.st = g.st → g'.env = g.env → Stp g g' → g'.Ok X.K → RVR X.K g.H g' res v' → Q v' g'.H) → r vs g.H Q) : CallD X fv op := by
  intro g pins s xs vs us res ok I hx rv e
  refine thn (h pins s g.st g.H vs us (fun v' H' => ∃ g' : G, g'.H = H' ∧ g'.st = g.st ∧ g'.env = g.env ∧ Stp g g' ∧ g'.Ok X.K ∧ RVR X.K g.H g' res v') I rv (hq g xs vs res _ ok hx e fun v' g' e1 e2 e3 e4 e5 => ⟨g', rfl, e1, e2, e3, e4, e5⟩)) ?_
  rintro z s' ⟨v', H', I', r', g', rfl, e1, e2, e3, e4, e5⟩
  exact ⟨v', g', e1, e2, I', r', e3, e4, e5⟩
theorem dws1 {K : PySem.W.Frag} {A : AS} {H : Hp} {x : PyData} {vs : List V} (h : Dws K A H [x] vs) : ∃ v, vs = [v] ∧ Dw K A H x v := by
  obtain ⟨v, t, rfl, h, rfl⟩ := h
  exact ⟨v, rfl, h⟩
theorem dws2 {K : PySem.W.Frag} {A : AS} {H : Hp} {x y : PyData} {vs : List V} (h : Dws K A H [x, y] vs) : ∃ v w, vs = [v, w] ∧ Dw K A H x v ∧ Dw K A H y w := by
  obtain ⟨v, t, rfl, h, w, t2, rfl, h2, rfl⟩ := h
  exact ⟨v, w, rfl, h, h2⟩
def opLen : List PyData → Option RV
  | [.str z] => if z.length ≤ lim then some (.d (.int z.length)) else none
  | [.list xs] => some (.d (.int xs.length))
  | [.tuple xs] => some (.d (.int xs.length))
  | _ => none
def opAbs : List PyData → Option RV
  | [.int i] => some (.d (.int (if i < 0 then -i else i)))
  | _ => none
def opToInt : List PyData → Option RV
  | [.int i] => some (.d (.int i))
  | [.bool b] => some (.d (.int (if b then 1 else 0)))
  | _ => none
def opTuple : List PyData → Option RV
  | [.list xs] => some (.d (.tuple xs))
  | [.tuple xs] => some (.d (.tuple xs))
  | _ => none
def opList : List PyData → Option RV
  | [.list xs] => some (.tmp (.lst xs))
  | [.tuple xs] => some (.tmp (.lst xs))
  | _ => none
def opMax2 : List PyData → Option RV
  | [.int i, .int j] => some (.d (.int (if j > i then j else i)))
  | _ => none
def opMin2 : List PyData → Option RV
  | [.int i, .int j] => some (.d (.int (if j < i then j else i)))
  | _ => none
/-- ints out of data -/
def intsOf : List PyData → Option (List Int)
  | [] => some []
  | .int i :: r => (intsOf r).map (i :: ·)
  | _ => none
theorem intsOf_map {xs : List PyData} {ns : List Int} (h : intsOf xs = some ns) : xs = ns.map .int := by
  induction xs generalizing ns with
  | nil => cases h; rfl
  | cons x r ih =>
    cases x with
    | int i =>
      simp only [intsOf] at h
      cases hr : intsOf r with
      | none => rw [hr] at h; cases h
      | some ms => rw [hr] at h; cases h; rw [ih hr]; rfl
    | _ => simp [intsOf] at h
@[simp] theorem intsOf_ints (ns : List Int) : intsOf (ns.map .int) = some ns := by
  induction ns with
  | nil => rfl
  | cons n r ih => simp [intsOf, ih]
theorem dvs_ints {K : PySem.W.Frag} {A : AS} {H : Hp} : ∀ {ns : List Int} {vs : List V}, Dvs K A H (ns.map .int) vs → vs = ns.map V.int
  | [], vs, h => by simpa [Dvs] using h
  | n :: ns, vs, h => by
    simp only [List.map_cons, Dvs] at h
    obtain ⟨v, r, rfl, h1, h2⟩ := h
    simp only [Dv] at h1
    rw [h1, dvs_ints h2]; rfl
def opSum : List PyData → Option RV
  | [.list xs] => (intsOf xs).map fun ns => .d (.int ns.sum)
  | _ => none
/-- any, all of a row of bools, of anything with a truth -/
def trusOf : List PyData → Option (List Bool)
  | [] => some []
  | x :: r => match truD x, trusOf r with
    | some b, some bs => some (b :: bs)
    | _, _ => none
def boolsOf : List PyData → Option (List Bool)
  | [] => some []
  | .bool i :: r => (boolsOf r).map (i :: ·)
  | _ => none
theorem boolsOf_map {xs : List PyData} {ns : List Bool} (h : boolsOf xs = some ns) : xs = ns.map .bool := by
  induction xs generalizing ns with
  | nil => cases h; rfl
  | cons x r ih =>
    cases x with
    | bool i =>
      simp only [boolsOf] at h
      cases hr : boolsOf r with
      | none => rw [hr] at h; cases h
      | some ms => rw [hr] at h; cases h; rw [ih hr]; rfl
    | _ => simp [boolsOf] at h
@[simp] theorem boolsOf_bools (ns : List Bool) : boolsOf (ns.map .bool) = some ns := by
  induction ns with
  | nil => rfl
  | cons n r ih => simp [boolsOf, ih]
theorem dvs_bools {K : PySem.W.Frag} {A : AS} {H : Hp} : ∀ {ns : List Bool} {vs : List V}, Dvs K A H (ns.map .bool) vs → vs = ns.map V.bl
  | [], vs, h => by simpa [Dvs] using h
  | n :: ns, vs, h => by
    simp only [List.map_cons, Dvs] at h
    obtain ⟨v, r, rfl, h1, h2⟩ := h
    simp only [Dv] at h1
    rw [h1, dvs_bools h2]; rfl
def opAny : List PyData → Option RV
  | [.list xs] => (boolsOf xs).map fun bs => .d (.bool (bs.any id))
  | _ => none
def opAll : List PyData → Option RV
  | [.list xs] => (boolsOf xs).map fun bs => .d (.bool (bs.all id))
  | _ => none
section
variable {X : Cx}
theorem rvr_int {K : PySem.W.Frag} {H0 : Hp} {g : G} {i : Int} : RVR K H0 g (.d (.int i)) (.int i) := by show Dv _ _ _ _ _; simp only [Dv]
theorem rvr_bl {K : PySem.W.Frag} {H0 : Hp} {g : G} {i : Bool} : RVR K H0 g (.d (.bool i)) (.bl i) := by show Dv _ _ _ _ _; simp only [Dv]
theorem rvr_str {K : PySem.W.Frag} {H0 : Hp} {g : G} {i : Str} : RVR K H0 g (.d (.str i)) (.str i) := by show Dv _ _ _ _ _; simp only [Dv]
theorem cd_len : CallD X (.builtin "len") opLen := .of call_len fun g xs vs res Q ok hx e hQ => by
  unfold opLen at e
  split at e
  · split at e
    · rename_i hz
      obtain ⟨v, rfl, hv⟩ := dws1 hx
      cases e
      obtain rfl := dw_str hv
      exact ⟨_, _, rfl, ⟨by rw [← lim_line]; exact hz, rfl⟩, hQ _ g rfl rfl (.refl g) ok rvr_int⟩
    · cases e
  · obtain ⟨v, rfl, hv⟩ := dws1 hx
    cases e
    obtain ⟨a, ws, rfl, q, r⟩ := dw_lst hv
    exact ⟨_, _, rfl, .inl ⟨ws, q, r.length⟩, hQ _ g rfl rfl (.refl g) ok rvr_int⟩
  · obtain ⟨v, rfl, hv⟩ := dws1 hx
    cases e
    obtain ⟨a, ws, rfl, q, r⟩ := dw_tup hv
    exact ⟨_, _, rfl, .inr ⟨ws, q, r.length⟩, hQ _ g rfl rfl (.refl g) ok rvr_int⟩
  · cases e
theorem cd_abs : CallD X (.builtin "abs") opAbs := .of call_abs fun g xs vs res Q ok hx e hQ => by
  unfold opAbs at e
  split at e
  · obtain ⟨v, rfl, hv⟩ := dws1 hx
    cases e
    obtain rfl := dw_int hv
    exact ⟨_, rfl, hQ _ g rfl rfl (.refl g) ok rvr_int⟩
  · cases e
theorem cd_int : CallD X (.type "int") opToInt := .of call_int1 fun g xs vs res Q ok hx e hQ => by
  unfold opToInt at e
  split at e
  · obtain ⟨v, rfl, hv⟩ := dws1 hx
    cases e
    obtain rfl := dw_int hv
    exact .inl ⟨_, rfl, hQ _ g rfl rfl (.refl g) ok rvr_int⟩
  · obtain ⟨v, rfl, hv⟩ := dws1 hx
    cases e
    rename_i b
    obtain rfl := dw_scal (x := .bool b) rfl hv
    exact .inr ⟨_, rfl, hQ _ g rfl rfl (.refl g) ok rvr_int⟩
  · cases e
theorem cd_tuple : CallD X (.type "tuple") opTuple := .of call_tuple_of fun g xs vs res Q ok hx e hQ => by
  unfold opTuple at e
  split at e
  · obtain ⟨v, rfl, hv⟩ := dws1 hx
    cases e
    obtain ⟨a, ws, rfl, q, r⟩ := dw_lst hv
    refine ⟨a, ws, rfl, .inl ⟨q, fun l hl => ?_⟩⟩
    obtain ⟨s2, ok2, r2⟩ := alloc_tup ok hl r
    exact hQ _ { g with H := upd g.H l (.tup ws) } rfl rfl s2 ok2 r2
  · obtain ⟨v, rfl, hv⟩ := dws1 hx
    cases e
    obtain ⟨a, ws, rfl, q, r⟩ := dw_tup hv
    exact ⟨a, ws, rfl, .inr ⟨q, hQ _ g rfl rfl (.refl g) ok hv⟩⟩
  · cases e
theorem cd_list : CallD X (.type "list") opList := .of call_list_of fun g xs vs res Q ok hx e hQ => by
  unfold opList at e
  split at e
  · obtain ⟨v, rfl, hv⟩ := dws1 hx
    cases e
    obtain ⟨a, ws, rfl, q, r⟩ := dw_lst hv
    refine ⟨a, ws, rfl, .inl q, fun l hl => ?_⟩
    obtain ⟨s2, ok2, r2⟩ := alloc_lst ok hl r
    exact hQ _ { g with A := fun b => g.A b ∨ b = l, H := upd g.H l (.lst ws) } rfl rfl s2 ok2 r2
  · obtain ⟨v, rfl, hv⟩ := dws1 hx
    cases e
    obtain ⟨a, ws, rfl, q, r⟩ := dw_tup hv
    refine ⟨a, ws, rfl, .inr q, fun l hl => ?_⟩
    obtain ⟨s2, ok2, r2⟩ := alloc_lst ok hl r
    exact hQ _ { g with A := fun b => g.A b ∨ b = l, H := upd g.H l (.lst ws) } rfl rfl s2 ok2 r2
  · cases e
theorem cd_max2 (hc : X.calm = true) : CallD X (.builtin "max") opMax2 := .of (call_max2 hc) fun g xs vs res Q ok hx e hQ => by
  unfold opMax2 at e
  split at e
  · obtain ⟨v, w, rfl, hv, hw⟩ := dws2 hx
    cases e
    obtain rfl := dw_int hv
    obtain rfl := dw_int hw
    exact ⟨_, _, rfl, hQ _ g rfl rfl (.refl g) ok rvr_int⟩
  · cases e
theorem cd_min2 (hc : X.calm = true) : CallD X (.builtin "min") opMin2 := .of (call_min2 hc) fun g xs vs res Q ok hx e hQ => by
  unfold opMin2 at e
  split at e
  · obtain ⟨v, w, rfl, hv, hw⟩ := dws2 hx
    cases e
    obtain rfl := dw_int hv
    obtain rfl := dw_int hw
    exact ⟨_, _, rfl, hQ _ g rfl rfl (.refl g) ok rvr_int⟩
  · cases e
theorem cd_sum (hc : X.calm = true) : CallD X (.builtin "sum") opSum := .of (cr_sum hc) fun g xs vs res Q ok hx e hQ => by
  unfold opSum at e
  split at e
  · obtain ⟨v, rfl, hv⟩ := dws1 hx
    cases hi : intsOf _ with
    | none => rw [hi] at e; cases e
    | some ns =>
      rw [hi] at e; cases e
      obtain ⟨a, ws, rfl, q, r⟩ := dw_lst hv
      rw [intsOf_map hi] at r
      rw [dvs_ints r] at q
      exact ⟨a, ns, rfl, q, hQ _ g rfl rfl (.refl g) ok rvr_int⟩
  · cases e
theorem cd_any (hc : X.calm = true) : CallD X (.builtin "any") opAny := .of (cr_any hc) fun g xs vs res Q ok hx e hQ => by
  unfold opAny at e
  split at e
  · obtain ⟨v, rfl, hv⟩ := dws1 hx
    cases hi : boolsOf _ with
    | none => rw [hi] at e; cases e
    | some ns =>
      rw [hi] at e; cases e
      obtain ⟨a, ws, rfl, q, r⟩ := dw_lst hv
      rw [boolsOf_map hi] at r
      rw [dvs_bools r] at q
      exact ⟨a, ns, rfl, q, hQ _ g rfl rfl (.refl g) ok rvr_bl⟩
  · cases e
theorem cd_all (hc : X.calm = true) : CallD X (.builtin "all") opAll := .of (cr_all hc) fun g xs vs res Q ok hx e hQ => by
  unfold opAll at e
  split at e
  · obtain ⟨v, rfl, hv⟩ := dws1 hx
    cases hi : boolsOf _ with
    | none => rw [hi] at e; cases e
    | some ns =>
      rw [hi] at e; cases e
      obtain ⟨a, ws, rfl, q, r⟩ := dw_lst hv
      rw [boolsOf_map hi] at r
      rw [dvs_bools r] at q
      exact ⟨a, ns, rfl, q, hQ _ g rfl rfl (.refl g) ok rvr_bl⟩
  · cases e
end
end BH

set_option maxRecDepth 100000
set_option maxHeartbeats 2000000
namespace BH
open PySem PySem.Spec PyProof.Rows L2

/-! ### slots locked while they are walked -/
def lock1 (env : SE) (i : Nat) : SE := match env[i]? with
  | some (some (.cell _ c)) => env.set i (some (.cell .lock c))
  | _ => env
def unlock1 (env0 : SE) (i : Nat) (env : SE) : SE := match env0[i]? with
  | some (some (.cell m c)) => env.set i (some (.cell m c))
  | _ => env
def lockAll : List Nat → SE → SE
  | [], env => env
  | i :: r, env => lockAll r (lock1 env i)
def unlockAll : List Nat → SE → SE → SE
  | [], _, env => env
  | i :: r, env0, env => unlock1 env0 i (unlockAll r (lock1 env0 i) env)
def lockG (lk : List Nat) (g : G) : G := { g with env := lockAll lk g.env }

section
variable {K : PySem.W.Frag} {g g' : G} {i : Nat}
theorem lock1_get {env : SE} {j : Nat} {mv : MV} (h : (lock1 env i)[j]? = some (some mv)) : (j ≠ i ∧ env[j]? = some (some mv)) ∨ (j = i ∧ ∃ m c, env[j]? = some (some (.cell m c)) ∧ mv = .cell .lock c) ∨ (j = i ∧ ∃ x, mv = .d x ∧ env[j]? = some (some (.d x))) := by
  unfold lock1 at h
  split at h
  · rename_i m c hi
    by_cases e : j = i
    · subst e
      have hl := (List.getElem?_eq_some_iff.mp hi).1
      rw [List.getElem?_set_self hl] at h
      simp only [Option.some.injEq] at h
      exact .inr (.inl ⟨rfl, m, c, hi, h.symm⟩)
    · rw [List.getElem?_set_ne (Ne.symm e)] at h
      exact .inl ⟨e, h⟩
  · rename_i hn
    by_cases e : j = i
    · subst e
      cases mv with
      | d x => exact .inr (.inr ⟨rfl, x, rfl, h⟩)
      | cell m c => exact absurd h (hn m c)
    · exact .inl ⟨e, h⟩
theorem lock1_cell {env : SE} {j : Nat} {m : Mode} {c : Cell} (h : (lock1 env i)[j]? = some (some (.cell m c))) : ∃ m', env[j]? = some (some (.cell m' c)) ∧ (j ≠ i → m' = m) ∧ (j = i → m = .lock) := by
  rcases lock1_get h with ⟨e, h⟩ | ⟨e, m', c', h1, h2⟩ | ⟨e, x, h1, h2⟩
  · exact ⟨m, h, fun _ => rfl, fun z => absurd z e⟩
  · cases h2; exact ⟨m', h1, fun z => absurd e z, fun _ => rfl⟩
  · cases h1
theorem lock1_length (env : SE) : (lock1 env i).length = env.length := by
  unfold lock1; split <;> simp
theorem ok_lock1 (ok : g.Ok K) : ({ g with env := lock1 g.env i } : G).Ok K where
  len := by show g.st.length = (lock1 g.env i).length; rw [lock1_length]; exact ok.len
  dat := fun j x h => by
    rcases lock1_get h with ⟨e, h⟩ | ⟨e, m', c', h1, h2⟩ | ⟨e, y, h1, h2⟩
    · exact ok.dat j x h
    · cases h2
    · cases h1; exact ok.dat j x h2
  cel := fun j m c h => by
    obtain ⟨m', h1, _, _⟩ := lock1_cell h
    exact ok.cel j m' c h1
  dis := fun j k m c m' c' a hj hk e1 e2 => by
    obtain ⟨m1, h1, _, _⟩ := lock1_cell hj
    obtain ⟨m2, h2, _, _⟩ := lock1_cell hk
    exact ok.dis j k m1 c m2 c' a h1 h2 e1 e2
  dom := ok.dom
theorem own_lock1 {a : Addr} (h : Own { g with env := lock1 g.env i } a) : Own g a := by
  obtain ⟨j, m, c, h1, h2, h3⟩ := h
  obtain ⟨m', q1, q2, q3⟩ := lock1_cell h1
  by_cases e : j = i
  · exact absurd (q3 e) h2
  · exact ⟨j, m', c, q1, by rw [q2 e]; exact h2, h3⟩
theorem unlock_step (ok : g.Ok K) (s : Stp { g with env := lock1 g.env i } g') (ok' : g'.Ok K) : Stp g { g' with env := unlock1 g.env i g'.env } ∧ ({ g' with env := unlock1 g.env i g'.env } : G).Ok K := by
  cases hi : g.env[i]? with
  | none =>
    have e1 : lock1 g.env i = g.env := by unfold lock1; rw [hi]
    have e2 : unlock1 g.env i g'.env = g'.env := by unfold unlock1; rw [hi]
    rw [e1] at s
    rw [e2]
    exact ⟨s, ok'⟩
  | some o =>
    cases o with
    | none =>
      have e1 : lock1 g.env i = g.env := by unfold lock1; rw [hi]
      have e2 : unlock1 g.env i g'.env = g'.env := by unfold unlock1; rw [hi]
      rw [e1] at s
      rw [e2]
      exact ⟨s, ok'⟩
    | some mv =>
      cases mv with
      | d x =>
        have e1 : lock1 g.env i = g.env := by unfold lock1; rw [hi]
        have e2 : unlock1 g.env i g'.env = g'.env := by unfold unlock1; rw [hi]
        rw [e1] at s
        rw [e2]
        exact ⟨s, ok'⟩
      | cell m c =>
        have e1 : lock1 g.env i = g.env.set i (some (.cell .lock c)) := by unfold lock1; rw [hi]
        have e2 : unlock1 g.env i g'.env = g'.env.set i (some (.cell m c)) := by unfold unlock1; rw [hi]
        have hil : i < g.env.length := (List.getElem?_eq_some_iff.mp hi).1
        have hl1 : (lock1 g.env i)[i]? = some (some (.cell .lock c)) := by rw [e1, List.getElem?_set_self hil]
        obtain ⟨z1, z2⟩ := s.lck i c hl1
        have hil' : i < g'.env.length := (List.getElem?_eq_some_iff.mp z2).1
        obtain ⟨a, q1, q2, q3⟩ := ok.cel i m c hi
        have z1 : g'.st[i]? = some (some (.ref a)) := z1.trans q1
        rw [e2]
        have get : ∀ {j : Nat} {mv : MV}, (g'.env.set i (some (.cell m c)))[j]? = some (some mv) → (j ≠ i ∧ g'.env[j]? = some (some mv)) ∨ (j = i ∧ mv = .cell m c) := fun {j mv} h => by
          by_cases e : j = i
          · subst e
            rw [List.getElem?_set_self hil'] at h
            simp only [Option.some.injEq] at h
            exact .inr ⟨rfl, h.symm⟩
          · rw [List.getElem?_set_ne (Ne.symm e)] at h
            exact .inl ⟨e, h⟩
        have back : ∀ {j : Nat} {m' c'}, (g'.env.set i (some (.cell m c)))[j]? = some (some (.cell m' c')) → ∃ m2, g'.env[j]? = some (some (.cell m2 c')) := fun {j m' c'} h => by
          rcases get h with ⟨_, h⟩ | ⟨e, h⟩
          · exact ⟨_, h⟩
          · cases h; subst e; exact ⟨_, z2⟩
        refine ⟨⟨⟨fun b o h n => s.ext.keep b o h fun z => n (own_lock1 z), s.ext.tup, s.ext.frz, s.ext.dom, fun b h n => s.ext.av1 b h fun z => n (own_lock1 z), s.ext.av2⟩, fun b hb => ?_, fun b hb => ?_, fun j c1 hj => ?_, fun j c1 hj => ?_⟩, ⟨by simpa using ok'.len, fun j x h => ?_, fun j m1 c1 h => ?_, fun j k m1 c1 m2 c2 b hj hk w1 w2 => ?_, ok'.dom⟩⟩
        · obtain ⟨j, m1, c1, h1, h2, h3⟩ := hb
          rcases get h1 with ⟨e, h⟩ | ⟨e, h⟩
          · rcases s.own b ⟨j, m1, c1, h, h2, h3⟩ with q | q
            · exact .inl (own_lock1 q)
            · exact .inr q
          · cases h; subst e
            have h3 : g'.st[j]? = some (some (.ref b)) := h3
            rw [z1] at h3; cases h3
            exact .inl ⟨j, m, c, hi, h2, q1⟩
        · obtain ⟨j, m1, c1, h1, h3⟩ := hb
          obtain ⟨m2, h⟩ := back h1
          rcases s.has b ⟨j, m2, c1, h, h3⟩ with ⟨j', m', c', q, q'⟩ | q
          · obtain ⟨m3, q5, _, _⟩ := lock1_cell q
            exact .inl ⟨j', m3, c', q5, q'⟩
          · exact .inr q
        · by_cases e : j = i
          · subst e
            rw [hi] at hj
            cases hj
            exact ⟨z1.trans q1.symm, c, by show (g'.env.set j _)[j]? = _; rw [List.getElem?_set_self hil']⟩
          · have : (lock1 g.env i)[j]? = some (some (.cell .bor c1)) := by rw [e1, List.getElem?_set_ne (Ne.symm e)]; exact hj
            obtain ⟨y1, c2, y2⟩ := s.bor j c1 this
            exact ⟨y1, c2, by show (g'.env.set i _)[j]? = _; rw [List.getElem?_set_ne (Ne.symm e)]; exact y2⟩
        · by_cases e : j = i
          · subst e
            rw [hi] at hj
            cases hj
            exact ⟨z1.trans q1.symm, by show (g'.env.set j _)[j]? = _; rw [List.getElem?_set_self hil']⟩
          · have : (lock1 g.env i)[j]? = some (some (.cell .lock c1)) := by rw [e1, List.getElem?_set_ne (Ne.symm e)]; exact hj
            obtain ⟨y1, y2⟩ := s.lck j c1 this
            exact ⟨y1, by show (g'.env.set i _)[j]? = _; rw [List.getElem?_set_ne (Ne.symm e)]; exact y2⟩
        · rcases get h with ⟨e, h⟩ | ⟨e, h⟩
          · exact ok'.dat j x h
          · cases h
        · obtain ⟨m2, h'⟩ := back h
          exact ok'.cel j m2 c1 h'
        · obtain ⟨m3, h3⟩ := back hj
          obtain ⟨m4, h4⟩ := back hk
          exact ok'.dis j k m3 c1 m4 c2 b h3 h4 w1 w2
end
theorem ok_lockAll {K : PySem.W.Frag} : ∀ (lk : List Nat) {g : G}, g.Ok K → (lockG lk g).Ok K
  | [], _, ok => ok
  | i :: r, g, ok => ok_lockAll r (g := { g with env := lock1 g.env i }) (ok_lock1 ok)
theorem unlock_all {K : PySem.W.Frag} : ∀ (lk : List Nat) {g g' : G}, g.Ok K → Stp (lockG lk g) g' → g'.Ok K →
    Stp g { g' with env := unlockAll lk g.env g'.env } ∧ ({ g' with env := unlockAll lk g.env g'.env } : G).Ok K
  | [], g, g', ok, s, ok' => ⟨s, ok'⟩
  | i :: r, g, g', ok, s, ok' => by
    obtain ⟨h1, h2⟩ := unlock_all r (g := { g with env := lock1 g.env i }) (g' := g') (ok_lock1 ok) s ok'
    exact unlock_step ok h1 h2
theorem own_lockAll : ∀ (lk : List Nat) {g : G} {a : Addr}, Own (lockG lk g) a → Own g a
  | [], _, _, h => h
  | i :: r, g, a, h => own_lock1 (own_lockAll r (g := { g with env := lock1 g.env i }) h)
/-- a locked slot's object is no one's to change -/
theorem lock_not {K : PySem.W.Frag} {g : G} {i : Nat} {m : Mode} {c : Cell} {a : Addr} (ok : g.Ok K) (h : g.env[i]? = some (some (.cell m c))) (ha : g.st[i]? = some (some (.ref a))) : ¬ Own { g with env := lock1 g.env i } a := by
  rintro ⟨j, m', c', h1, h2, h3⟩
  obtain ⟨m2, q1, q2, q3⟩ := lock1_cell h1
  have h3 : g.st[j]? = some (some (.ref a)) := h3
  have e := ok.dis j i _ _ _ _ a q1 h h3 ha
  exact h2 (q3 e)

/-! ### what is walked -/
/-- the iterator yields just the data xs, as long as the objects at L stay -/
def ItOk (K : PySem.W.Frag) (L : AS) (J : It) (xs : List PyData) (A : AS) (H : Hp) : Prop :=
  ∃ S : AS → Hp → Prop, S A H ∧ (∀ O A H A' H', S A H → Ext O A H A' H' → (∀ a, O a → A a) → (∀ a, L a → ¬ O a) → S A' H') ∧ (∀ A H, S A H → ∀ a, L a → H a ≠ none) ∧
    ∀ A H, S A H → (∀ (i : Nat) x0, xs[i]? = some x0 → J.go i H ∧ ∀ x H', J.yld i H x H' → (∀ O, Ext O A H A H') ∧ Dv K A H' x0 x) ∧ J.stop xs.length H
abbrev IF := SE → Res ((List PyData × List Nat) × SE)
def tIt (X : Cx) (W : WX) (f : IF) : TI := fun σ H R => ∃ g : G, g.st = σ ∧ g.H = H ∧ g.Ok X.K ∧ Out X W g (f g.env) fun g' p => ∀ J L, (∀ a, L a → ¬ Own (lockG p.2 g') a) → ItOk X.K L J p.1 g'.A g'.H → R J g'.H
structure FI (X : Cx) (tg iter : Expr) (f : IF) : Prop where
  pi : ∀ W, Takes X W → PI X tg iter (tIt X W f)
def lkOf : RV → SE → List Nat
  | .slot i, env => match env[i]? with
    | some (some (.cell _ _)) => [i]
    | _ => []
  | _, _ => []
/-- where a list's items lie -/
theorem src_lst {K : PySem.W.Frag} {H0 : Hp} {g : G} {r : RV} {v : V} {ds : List PyData} (ok : g.Ok K) (h : RVR K H0 g r v) (e : r.view g.env = some (.list ds)) :
    ∃ a vs, ∃ L : AS, v = .ref a ∧ SqL K g.H a vs ∧ Dvs K g.A g.H ds vs ∧ (∀ b, L b → ¬ Own (lockG (lkOf r g.env) g) b) ∧
      ∃ S : AS → Hp → Prop, S g.A g.H ∧ (∀ O A H A' H', S A H → Ext O A H A' H' → (∀ a, O a → A a) → (∀ a, L a → ¬ O a) → S A' H') ∧ (∀ A H, S A H → ∀ b, L b → H b ≠ none) ∧
        ∀ A H, S A H → SqL K H a vs ∧ Dvs K A H ds vs := by
  have data : ∀ {x : PyData}, Dv K g.A g.H (.list ds) v → lkOf r g.env = [] → ∃ a vs, ∃ L : AS, v = .ref a ∧ SqL K g.H a vs ∧ Dvs K g.A g.H ds vs ∧ (∀ b, L b → ¬ Own (lockG (lkOf r g.env) g) b) ∧
      ∃ S : AS → Hp → Prop, S g.A g.H ∧ (∀ O A H A' H', S A H → Ext O A H A' H' → (∀ a, O a → A a) → (∀ a, L a → ¬ O a) → S A' H') ∧ (∀ A H, S A H → ∀ b, L b → H b ≠ none) ∧
        ∀ A H, S A H → SqL K H a vs ∧ Dvs K A H ds vs := fun {x} d el => by
    simp only [Dv] at d
    obtain ⟨a, vs, rfl, q, t⟩ := d
    refine ⟨a, vs, fun _ => False, rfl, q.sq, t, fun _ z => z.elim, fun A H => LsD K A H a vs ∧ Dvs K A H ds vs, ⟨q, t⟩, fun O A H A' H' ⟨h1, h2⟩ e hO _ => ⟨?_, Dvs.ext e hO ds vs h2⟩, fun _ _ _ _ z => z.elim, fun A H ⟨h1, h2⟩ => ⟨h1.sq, h2⟩⟩
    rcases h1 with ⟨n, q⟩ | q
    · refine .inl ⟨fun z => ?_, e.rd hO (fun z => n (hO a z)) q⟩
      rcases e.av2 a z with y | y
      · exact n y
      · exact rd_some q y
    · exact .inr q
  have cell : ∀ {a : Addr}, v = .ref a → g.A a → CellR K g.A g.H (.lst ds) a → ¬ Own (lockG (lkOf r g.env) g) a → ∃ a vs, ∃ L : AS, v = .ref a ∧ SqL K g.H a vs ∧ Dvs K g.A g.H ds vs ∧ (∀ b, L b → ¬ Own (lockG (lkOf r g.env) g) b) ∧
      ∃ S : AS → Hp → Prop, S g.A g.H ∧ (∀ O A H A' H', S A H → Ext O A H A' H' → (∀ a, O a → A a) → (∀ a, L a → ¬ O a) → S A' H') ∧ (∀ A H, S A H → ∀ b, L b → H b ≠ none) ∧
        ∀ A H, S A H → SqL K H a vs ∧ Dvs K A H ds vs := fun {a} ev hA hc no => by
    obtain ⟨vs, q, t⟩ := hc
    refine ⟨a, vs, fun b => b = a, ev, .of q, t, fun b hb => by rw [hb]; exact no, fun A H => H a = some (.lst vs) ∧ Dvs K A H ds vs, ⟨q, t⟩, fun O A H A' H' ⟨h1, h2⟩ e hO hL => ⟨e.keep _ _ h1 (hL a rfl), Dvs.ext e hO ds vs h2⟩, fun A H ⟨h1, _⟩ b hb => by rw [hb, h1]; simp, fun A H ⟨h1, h2⟩ => ⟨.of h1, h2⟩⟩
  cases r with
  | d y =>
    simp only [RV.view, Option.some.injEq] at e; subst e
    exact data (x := .none) h rfl
  | tmp c =>
    obtain ⟨a, ev, hA, hc, _, hs⟩ := h
    cases c with
    | lst xs =>
      simp only [RV.view, Cell.data, Option.some.injEq, PyData.list.injEq] at e; subst e
      exact cell ev hA hc fun ⟨i, m, c', q1, _, q2⟩ => hs ⟨i, m, c', q1, q2⟩
    | _ => simp [RV.view, Cell.data] at e
  | slot i =>
    have h1 : g.st[i]? = some (some v) := h
    cases h2 : g.env[i]? with
    | none => simp [RV.view, h2] at e
    | some o => cases o with
      | none => simp [RV.view, h2] at e
      | some mv =>
        simp only [RV.view, h2] at e
        cases mv with
        | d y =>
          simp only [MV.data, Option.some.injEq] at e; subst e
          obtain ⟨w, q1, q2⟩ := ok.dat i _ h2
          rw [h1] at q1; cases q1
          exact data (x := .none) q2 (by simp only [lkOf, h2])
        | cell m c =>
          obtain ⟨a, q1, q2, q3⟩ := ok.cel i m c h2
          have q1' := q1
          rw [h1] at q1; cases q1
          cases c with
          | lst xs =>
            simp only [MV.data, Cell.data, Option.some.injEq, PyData.list.injEq] at e; subst e
            have el : lkOf (.slot i) g.env = [i] := by simp only [lkOf, h2]
            refine cell rfl q2 q3 ?_
            rw [el]
            exact lock_not ok h2 q1'
          | _ => simp [MV.data, Cell.data] at e
def fSeq (f : EF) : IF := fun env => (f env).bind fun p => match p.1.view p.2 with
  | some (.list ds) => .ok ((ds, lkOf p.1 p.2), p.2)
  | some (.tuple ds) => .ok ((ds, []), p.2)
  | _ => .fail
theorem itl_ok {K : PySem.W.Frag} {L : AS} {a : Addr} {vs : List V} {ds : List PyData} {A : AS} {H : Hp} {S : AS → Hp → Prop} (h0 : S A H) (hs : ∀ O A H A' H', S A H → Ext O A H A' H' → (∀ a, O a → A a) → (∀ a, L a → ¬ O a) → S A' H') (hd : ∀ A H, S A H → ∀ b, L b → H b ≠ none)
    (hq : ∀ A H, S A H → SqL K H a vs ∧ Dvs K A H ds vs) : ItOk K L (Itl K a) ds A H := by
  refine ⟨S, h0, hs, hd, fun A H h => ?_⟩
  obtain ⟨q, t⟩ := hq A H h
  refine ⟨fun i x0 e => ?_, vs, q, Nat.le_of_eq t.length.symm⟩
  obtain ⟨v, e1, e2⟩ := t.getD e
  refine ⟨⟨vs, v, q, e1⟩, fun x H' y => ?_⟩
  obtain ⟨rfl, y⟩ := y
  have := y vs q
  rw [e1] at this; cases this
  exact ⟨fun O => .refl _ _ _, e2⟩
theorem itt_ok {K : PySem.W.Frag} {a : Addr} {vs : List V} {ds : List PyData} {A : AS} {H : Hp} (q : SqT K H a vs) (t : Dvs K A H ds vs) : ItOk K (fun _ => False) (Itt K a) ds A H := by
  refine ⟨fun A H => SqT K H a vs ∧ Dvs K A H ds vs, ⟨q, t⟩, fun O A H A' H' ⟨h1, h2⟩ e hO _ => ⟨sqt_ext e.tup e.frz h1, Dvs.ext e hO ds vs h2⟩, fun _ _ _ _ z => z.elim, fun A H ⟨q, t⟩ => ?_⟩
  refine ⟨fun i x0 e => ?_, vs, q, Nat.le_of_eq t.length.symm⟩
  obtain ⟨v, e1, e2⟩ := t.getD e
  refine ⟨⟨vs, v, q, e1⟩, fun x H' y => ?_⟩
  obtain ⟨rfl, y⟩ := y
  have := y vs q
  rw [e1] at this; cases this
  exact ⟨fun O => .refl _ _ _, e2⟩
theorem fi_seq {X : Cx} {tg l : Expr} {f : EF} (h : FE X l f) : FI X tg l (fSeq f) := by
  refine ⟨fun W tk => ⟨fun pins s σ H R I hq => ?_⟩⟩
  obtain ⟨g, rfl, rfl, ok, o⟩ := hq
  refine h.go tk ok I o.bind0 fun u s1 g1 rv v e1 I1 r ok1 st rr p => ?_
  split at p
  · rename_i ds hv
    obtain ⟨a, vs, L, rfl, q, t, hL, S, s1', s2, s3, s4⟩ := src_lst ok1 rr hv
    cases r
    obtain ⟨its, rv', pl, hz⟩ := I1.list q
    refine wpAny_pyIter_list pl.isList ?_
    refine ⟨s1.heap.objs.size, [s1.heap.objs.size], _, _, g1.H, rfl, by rw [← e1]; exact I1.kept (t' := s1.toks) fun b o e => Heap.get?_push_of_some _ e, turn_list a _, ⟨_, Heap.get?_push_size _ rfl, rfl, rfl⟩, fun b hb => ?_, p g1 rfl e1 st ok1 _ L hL (itl_ok s1' s2 s3 s4)⟩
    have e : b = s1.heap.objs.size := by simpa using hb
    subst e
    exact I1.fpOk (Nat.le_refl _) (I1.hok.fresh (Nat.le_refl _))
  · rename_i ds hv
    obtain ⟨a, vs, rfl, q, t⟩ := dw_tup (rr.dw ok1 hv)
    cases r
    obtain ⟨its, rv', pl, hz⟩ := I1.tuple q
    refine wpAny_pyIter_tuple (show s1.heap.IsTuple a its.toArray from pl) ?_
    refine ⟨s1.heap.objs.size, [s1.heap.objs.size], _, _, g1.H, rfl, by rw [← e1]; exact I1.kept (t' := s1.toks) fun b o e => Heap.get?_push_of_some _ e, turn_tuple a _, ⟨_, Heap.get?_push_size _ rfl, rfl, rfl⟩, fun b hb => ?_, p g1 rfl e1 st ok1 _ _ (fun _ z => z.elim) (itt_ok q t)⟩
    have e : b = s1.heap.objs.size := by simpa using hb
    subst e
    exact I1.fpOk (Nat.le_refl _) (I1.hok.fresh (Nat.le_refl _))
  · exact p.elim
/-! ### range -/
def rangeD (lo : Int) (n : Nat) : List PyData := (List.range n).map fun i => .int (lo + (i : Nat))
theorem itr_ok {K : PySem.W.Frag} {lo : Int} {n : Nat} {A : AS} {H : Hp} : ItOk K (fun _ => False) (Itr lo n) (rangeD lo n) A H := by
  refine ⟨fun _ _ => True, trivial, fun _ _ _ _ _ _ _ _ _ => trivial, fun _ _ _ _ z => z.elim, fun A H _ => ⟨fun i x0 e => ?_, ?_⟩⟩
  · unfold rangeD at e
    rw [List.getElem?_map] at e
    cases hr : (List.range n)[i]? with
    | none => rw [hr] at e; cases e
    | some j =>
      rw [hr] at e; cases e
      have hi : i < n := by
        have := (List.getElem?_eq_some_iff.mp hr).1
        simpa using this
      have hj : j = i := by
        rw [List.getElem?_range hi] at hr; cases hr; rfl
      subst hj
      refine ⟨hi, fun x H' y => ?_⟩
      obtain ⟨rfl, rfl⟩ := y
      exact ⟨fun O => .refl _ _ _, by simp only [Dv]⟩
  · show n ≤ (rangeD lo n).length
    unfold rangeD; simp
def rngG (j : Int) : Prop := -(2 ^ 62) ≤ j ∧ j < 2 ^ 62
instance (j : Int) : Decidable (rngG j) := by unfold rngG; exact inferInstance
def fRng1 (f : EFs) : IF := fun env => (f env).bind fun p => match views p.1 p.2 with
  | some [.int j] => if rngG j then .ok ((rangeD 0 j.toNat, []), p.2) else .fail
  | _ => .fail
def fRng2 (f : EFs) : IF := fun env => (f env).bind fun p => match views p.1 p.2 with
  | some [.int i, .int j] => if rngG i ∧ rngG j then .ok ((rangeD i (j - i).toNat, []), p.2) else .fail
  | _ => .fail
theorem fi_range1 {X : Cx} {tg a : Expr} {f : EFs} {p pos : Pos} (hg : Gl X "range") (hm : X.mg "range" = none) (ha : FPs X [a] f) (hs : starEach [a] X.env = [(false, eval a X.env)] := by rfl) : FI X tg (.Call (.Name "range" p) [a] [] pos) (fRng1 f) := by
  refine ⟨fun W tk => ⟨fun pins s σ H R I hq => ?_⟩⟩
  obtain ⟨g, rfl, rfl, ok, o⟩ := hq
  refine (pi_range1 hg hm (ha.pa W tk) hs).run pins s g.st g.H R I ⟨g, rfl, rfl, ok, o.bind0.imp fun g1 rs st e ok1 p vs rr => ?_⟩
  split at p
  · rename_i j hv
    obtain ⟨v, rfl, hx⟩ := dws1 (rr.dws ok1 hv)
    obtain rfl := dw_int hx
    split at p
    · rename_i hr
      exact ⟨j, rfl, hr.1, hr.2, p g1 rfl e st ok1 _ _ (fun _ z => z.elim) itr_ok⟩
    · exact p.elim
  · exact p.elim
theorem fi_range2 {X : Cx} {tg a b : Expr} {f : EFs} {p pos : Pos} (hg : Gl X "range") (hm : X.mg "range" = none) (ha : FPs X [a, b] f) (hs : starEach [a, b] X.env = [(false, eval a X.env), (false, eval b X.env)] := by rfl) (hs2 : starEach [b] X.env = [(false, eval b X.env)] := by rfl) : FI X tg (.Call (.Name "range" p) [a, b] [] pos) (fRng2 f) := by
  refine ⟨fun W tk => ⟨fun pins s σ H R I hq => ?_⟩⟩
  obtain ⟨g, rfl, rfl, ok, o⟩ := hq
  refine (pi_range2 hg hm (ha.pa W tk) hs hs2).run pins s g.st g.H R I ⟨g, rfl, rfl, ok, o.bind0.imp fun g1 rs st e ok1 p vs rr => ?_⟩
  split at p
  · rename_i i j hv
    obtain ⟨v, w, rfl, hx, hy⟩ := dws2 (rr.dws ok1 hv)
    obtain rfl := dw_int hx
    obtain rfl := dw_int hy
    split at p
    · rename_i hr
      exact ⟨i, j, rfl, ⟨hr.1.1, hr.1.2, hr.2.1, hr.2.2⟩, p g1 rfl e st ok1 _ _ (fun _ z => z.elim) itr_ok⟩
    · exact p.elim
  · exact p.elim

/-! ### targets -/
abbrev BF := PyData → SE → Option SE
/-- a slot takes a value, unless another's object stands there -/
def setS (env : SE) (i : Nat) (mv : MV) : Option SE := match env[i]? with
  | some (some (.cell .bor _)) => none
  | some (some (.cell .lock _)) => none
  | some _ => some (env.set i (some mv))
  | none => none
def bName (i : Nat) : BF := fun x env => setS env i (.d x)
/-- .. the state behind it -/
theorem set_data {K : PySem.W.Frag} {g : G} {i : Nat} {x : PyData} {v : V} {env' : SE} (ok : g.Ok K) (d : Dv K g.A g.H x v) (h : setS g.env i (.d x) = some env') :
    Stp g { g with st := g.st.set i (some v), env := env' } ∧ ({ g with st := g.st.set i (some v), env := env' } : G).Ok K := by
  unfold setS at h
  have core : ∀ o, g.env[i]? = some o → (∀ c, o ≠ some (.cell .bor c)) → (∀ c, o ≠ some (.cell .lock c)) → env' = g.env.set i (some (.d x)) → Stp g { g with st := g.st.set i (some v), env := env' } ∧ ({ g with st := g.st.set i (some v), env := env' } : G).Ok K := by
    intro o hi nb nl e
    subst e
    have hil : i < g.env.length := (List.getElem?_eq_some_iff.mp hi).1
    have his : i < g.st.length := by rw [ok.len]; exact hil
    have stn : ∀ j, j ≠ i → (g.st.set i (some v))[j]? = g.st[j]? := fun j e => List.getElem?_set_ne (Ne.symm e)
    have get : ∀ {j : Nat} {mv : MV}, (g.env.set i (some (.d x)))[j]? = some (some mv) → (j ≠ i ∧ g.env[j]? = some (some mv)) ∨ (j = i ∧ mv = .d x) := fun {j mv} h => by
      by_cases e : j = i
      · subst e
        rw [List.getElem?_set_self hil] at h
        simp only [Option.some.injEq] at h
        exact .inr ⟨rfl, h.symm⟩
      · rw [List.getElem?_set_ne (Ne.symm e)] at h
        exact .inl ⟨e, h⟩
    have cl : ∀ {j : Nat} {m c}, (g.env.set i (some (.d x)))[j]? = some (some (.cell m c)) → j ≠ i ∧ g.env[j]? = some (some (.cell m c)) := fun {j m c} h => by
      rcases get h with h | ⟨_, h⟩
      · exact h
      · cases h
    refine ⟨⟨.refl _ _ _, fun a ha => ?_, fun a ha => ?_, fun j c hj => ?_, fun j c hj => ?_⟩, ⟨by simpa using ok.len, fun j y hj => ?_, fun j m c hj => ?_, fun j k m c m' c' a hj hk e1 e2 => ?_, ok.dom⟩⟩
    · rcases own_set stn ha with q | ⟨m, c, q, _⟩
      · exact .inl q
      · cases q
    · rcases has_set stn ha with q | ⟨m, c, q, _⟩
      · exact .inl q
      · cases q
    · have : j ≠ i := by rintro rfl; rw [hi] at hj; exact nb c (Option.some.inj hj)
      exact ⟨stn j this, c, by show (g.env.set i _)[j]? = _; rw [List.getElem?_set_ne (Ne.symm this)]; exact hj⟩
    · have : j ≠ i := by rintro rfl; rw [hi] at hj; exact nl c (Option.some.inj hj)
      exact ⟨stn j this, by show (g.env.set i _)[j]? = _; rw [List.getElem?_set_ne (Ne.symm this)]; exact hj⟩
    · rcases get hj with ⟨e, hj⟩ | ⟨e, hj⟩
      · show ∃ w, (g.st.set i (some v))[j]? = _ ∧ _
        rw [stn j e]; exact ok.dat j y hj
      · cases hj; subst e
        exact ⟨v, by show (g.st.set j (some v))[j]? = _; rw [List.getElem?_set_self his], d⟩
    · obtain ⟨e, hj⟩ := cl hj
      show ∃ w, (g.st.set i (some v))[j]? = _ ∧ _
      rw [stn j e]; exact ok.cel j m c hj
    · obtain ⟨n1, hj⟩ := cl hj
      obtain ⟨n2, hk⟩ := cl hk
      have e1 : (g.st.set i (some v))[j]? = _ := e1
      have e2 : (g.st.set i (some v))[k]? = _ := e2
      rw [stn j n1] at e1
      rw [stn k n2] at e2
      exact ok.dis j k m c m' c' a hj hk e1 e2
  split at h
  · cases h
  · cases h
  · rename_i o nb nl hi
    cases h
    exact core o hi (fun c z => nb c z) (fun c z => nl c z) rfl
  · cases h
/-- the slots off vs stay -/
def Off (vs : List Nat) (g g' : G) : Prop := g'.st.length = g.st.length ∧ g'.env.length = g.env.length ∧ ∀ j, j ∉ vs → g'.st[j]? = g.st[j]? ∧ g'.env[j]? = g.env[j]?
theorem Off.trans {vs ws : List Nat} {g g1 g2 : G} (a : Off vs g g1) (b : Off ws g1 g2) : Off (vs ++ ws) g g2 :=
  ⟨b.1.trans a.1, b.2.1.trans a.2.1, fun j hj => by
    simp only [List.mem_append, not_or] at hj
    exact ⟨(b.2.2 j hj.2).1.trans (a.2.2 j hj.1).1, (b.2.2 j hj.2).2.trans (a.2.2 j hj.1).2⟩⟩
def tBd (X : Cx) (vs : List Nat) (b : BF) : TG := fun v σ H Q => ∃ (g : G) (x : PyData) (env' : SE), g.st = σ ∧ g.H = H ∧ g.Ok X.K ∧ Dv X.K g.A g.H x v ∧ b x g.env = some env' ∧ ∀ g' : G, g'.env = env' → g'.A = g.A → Off vs g g' → Stp g g' → g'.Ok X.K → g'.H = g.H → Q g'.st g'.H
structure FG (X : Cx) (tg : Expr) (vs : List Nat) (b : BF) : Prop where
  pg : PG X tg (tBd X vs b)
abbrev BFs := List PyData → SE → Option SE
def tBds (X : Cx) (vs : List Nat) (b : BFs) : TGs := fun v σ H Q => ∃ (g : G) (x : List PyData) (env' : SE), g.st = σ ∧ g.H = H ∧ g.Ok X.K ∧ Dvs X.K g.A g.H x v ∧ b x g.env = some env' ∧ ∀ g' : G, g'.env = env' → g'.A = g.A → Off vs g g' → Stp g g' → g'.Ok X.K → g'.H = g.H → Q g'.st g'.H
structure FGs (X : Cx) (ts : List Expr) (vs : List Nat) (b : BFs) : Prop where
  pgs : PGs X ts (tBds X vs b)
theorem setS_len {env env' : SE} {i : Nat} {mv : MV} (h : setS env i mv = some env') : env'.length = env.length ∧ ∀ j, j ≠ i → env'[j]? = env[j]? := by
  unfold setS at h
  split at h
  · cases h
  · cases h
  · cases h; exact ⟨by simp, fun j e => List.getElem?_set_ne (Ne.symm e)⟩
  · cases h
theorem fg_name {X : Cx} {x : Str} {i : Nat} {pos : Pos} (hN : X.N.Nodup) (hi : X.N[i]? = some x) (hx : Loc X.env.scope x) (hf : X.fn x = true ∨ X.env.scope.names.lookup x = some .local := by first | exact .inl rfl | exact .inr rfl | assumption) : FG X (.Name x pos) [i] (bName i) := by
  refine ⟨⟨fun pins s σ H v u Q I r h => ?_⟩⟩
  obtain ⟨g, y, env', rfl, rfl, ok, d, hb, hQ⟩ := h
  obtain ⟨s1, o1⟩ := set_data ok d hb
  obtain ⟨l1, l2⟩ := setS_len hb
  refine (pg_name hN hi hx hf).run pins s g.st g.H v u Q I r ?_
  exact hQ { g with st := g.st.set i (some v), env := env' } rfl rfl ⟨by simp, l1, fun j hj => ⟨List.getElem?_set_ne (by simp at hj; exact fun e => hj e.symm), l2 j (by simpa using hj)⟩⟩ s1 o1 rfl
def bNil : BFs := fun xs env => match xs with
  | [] => some env
  | _ => none
def bCons (b : BF) (t : BFs) : BFs := fun xs env => match xs with
  | x :: r => match b x env with
    | some env1 => t r env1
    | none => none
  | [] => none
def bTup (t : BFs) : BF := fun x env => match x with
  | .tuple ds => t ds env
  | _ => none
theorem fgs_nil {X : Cx} : FGs X [] [] bNil := ⟨⟨fun pins s σ H vs us Q I r h => by
  obtain ⟨g, xs, env', rfl, rfl, ok, d, hb, hQ⟩ := h
  cases xs with
  | nil =>
    cases hb
    simp only [Dvs] at d
    subst d
    exact pgs_nil.run pins s g.st g.H [] us Q I r ⟨rfl, hQ g rfl rfl ⟨rfl, rfl, fun _ _ => ⟨rfl, rfl⟩⟩ (.refl g) ok rfl⟩
  | cons x r => cases hb⟩⟩
theorem fgs_cons {X : Cx} {e : Expr} {es : List Expr} {vs ws : List Nat} {b : BF} {t : BFs} (h : FG X e vs b) (ht : FGs X es ws t) (hs : (assignEach (e :: es) X.env).map (·.2) = assign e X.env :: (assignEach es X.env).map (·.2) := by rfl) : FGs X (e :: es) (vs ++ ws) (bCons b t) := ⟨⟨fun pins s σ H vls us Q I r hh => by
  obtain ⟨g, xs, env', rfl, rfl, ok, d, hb, hQ⟩ := hh
  cases xs with
  | nil => cases hb
  | cons x xr =>
    simp only [Dvs] at d
    obtain ⟨v, vr, rfl, d1, d2⟩ := d
    simp only [bCons] at hb
    cases h1 : b x g.env with
    | none => rw [h1] at hb; cases hb
    | some env1 =>
      rw [h1] at hb
      refine (pgs_cons h.pg ht.pgs hs).run pins s g.st g.H (v :: vr) us Q I r ⟨v, vr, rfl, g, x, env1, rfl, rfl, ok, d1, h1, fun g1 e1 e2 f1 s1 o1 e3 => ?_⟩
      refine ⟨g1, xr, env', rfl, rfl, o1, s1.dvs ok d2, by rw [e1]; exact hb, fun g2 e4 e5 f2 s2 o2 e6 => ?_⟩
      exact hQ g2 e4 (e5.trans e2) (f1.trans f2) (s1.trans ok s2) o2 (e6.trans e3)⟩⟩
theorem fg_tup {X : Cx} {es : List Expr} {k : Nat} {vs : List Nat} {t : BFs} {pos : Pos} (hc : X.calm = true) (h : FGs X es vs t) (n : Nat) (hlen : ∀ ds env env', t ds env = some env' → ds.length = n)
    (hn : (assignEach es X.env).length = n := by rfl) (hst : (assignEach es X.env).findIdx? (·.1) = none := by rfl) : FG X (.Tuple es k pos) vs (bTup t) := ⟨⟨fun pins s σ H v u Q I r hh => by
  obtain ⟨g, x, env', rfl, rfl, ok, d, hb, hQ⟩ := hh
  cases x with
  | tuple ds =>
    simp only [Dv] at d
    obtain ⟨a, ws, rfl, q, d⟩ := d
    simp only [bTup] at hb
    refine (pg_tup hc h.pgs hn hst).run pins s g.st g.H (.ref a) u Q I r ⟨a, ws, rfl, q, by rw [← d.length]; exact hlen _ _ _ hb, g, ds, env', rfl, rfl, ok, d, hb, hQ⟩
  | _ => cases hb⟩⟩
theorem bCons_len {b : BF} {t : BFs} {n : Nat} (ht : ∀ ds env env', t ds env = some env' → ds.length = n) : ∀ ds env env', bCons b t ds env = some env' → ds.length = n + 1 := by
  intro ds env env' h
  cases ds with
  | nil => cases h
  | cons x r =>
    simp only [bCons] at h
    split at h
    · simp [ht _ _ _ h]
    · cases h
theorem bNil_len : ∀ ds env env', bNil ds env = some env' → ds.length = 0 := by
  intro ds env env' h
  cases ds with
  | nil => rfl
  | cons x r => cases h

/-! ### statements -/
inductive Ret where
  | d (x : PyData)
  | tmp (c : Cell)
inductive Fl where
  | nx | bk | ct
  | rt (r : Ret)
def Bor (g : G) : AS := fun a => ∃ (i : Nat) (c : Cell), g.env[i]? = some (some (.cell .bor c)) ∧ g.st[i]? = some (some (.ref a))
/-- what a def hands back, begun at H0 -/
def RetR (K : PySem.W.Frag) (H0 : Hp) (g : G) : Ret → V → Prop
  | .d x, v => Dv K g.A g.H x v
  | .tmp c, v => ∃ a, v = .ref a ∧ g.A a ∧ CellR K g.A g.H c a ∧ (H0 a = none ∨ (Own g a ∧ ¬ Bor g a))
abbrev SF := SE → Res (Fl × SE)
def OutS (X : Cx) (W : WX) (g : G) (r : Res (Fl × SE)) (D : Ends) : Prop :=
  match r with
  | .ok (.nx, env') => ∀ g' : G, g'.env = env' → Stp g g' → g'.Ok X.K → D.nx g'.st g'.H
  | .ok (.bk, env') => ∀ g' : G, g'.env = env' → Stp g g' → g'.Ok X.K → D.bk g'.st g'.H
  | .ok (.ct, env') => ∀ g' : G, g'.env = env' → Stp g g' → g'.Ok X.K → D.ct g'.st g'.H
  | .ok (.rt r, env') => ∀ (g' : G) v, g'.env = env' → Stp g g' → g'.Ok X.K → RetR X.K g.H g' r v → D.rt v g'.H
  | .exc c fs env' => ∀ (g' : G) cls d, g'.env = env' → Stp g g' → g'.Ok X.K → ExcR X g' c fs cls d → W cls d g'.st g'.H
  | .fail => False
def tS (X : Cx) (W : WX) (f : SF) : TS := fun D σ H => ∃ g : G, g.st = σ ∧ g.H = H ∧ g.Ok X.K ∧ OutS X W g (f g.env) D
structure FS (X : Cx) (st : Stmt) (f : SF) : Prop where
  ps : ∀ W, Takes X W → PassesOwn (model X.prog X.w) X.A X.env X.xe → PS X st (tS X W f)
structure FSs (X : Cx) (st : List Stmt) (f : SF) : Prop where
  pss : ∀ W, Takes X W → PassesOwn (model X.prog X.w) X.A X.env X.xe → PSs X st (tS X W f)
theorem RetR.old {K : PySem.W.Frag} {H0 H1 : Hp} {g : G} {r : Ret} {v : V} (d : ∀ a, H0 a ≠ none → H1 a ≠ none) (h : RetR K H1 g r v) : RetR K H0 g r v := by
  cases r with
  | d x => exact h
  | tmp c =>
    obtain ⟨a, h1, h2, h3, h4⟩ := h
    exact ⟨a, h1, h2, h3, h4.imp (fun z => none_of_dom d z) id⟩
/-- seen from a later state -/
theorem OutS.rebase {X : Cx} {W : WX} {g g1 : G} {r : Res (Fl × SE)} {D : Ends} (ok : g.Ok X.K) (s : Stp g g1) (h : OutS X W g r D) : OutS X W g1 r D := by
  cases r with
  | ok y =>
    obtain ⟨x, env'⟩ := y
    cases x with
    | nx => exact fun g2 e1 s2 o2 => h g2 e1 (s.trans ok s2) o2
    | bk => exact fun g2 e1 s2 o2 => h g2 e1 (s.trans ok s2) o2
    | ct => exact fun g2 e1 s2 o2 => h g2 e1 (s.trans ok s2) o2
    | rt r => exact fun g2 v e1 s2 o2 rr => h g2 v e1 (s.trans ok s2) o2 (rr.old s.ext.dom)
  | exc c fs env' => exact fun g2 cls d e1 s2 o2 x2 => h g2 cls d e1 (s.trans ok s2) o2 x2
  | fail => exact h
/-- an expression ahead of a statement's rest -/
theorem OutS.bindE {α : Type} {X : Cx} {W : WX} {g : G} {r : Res (α × SE)} {k : α × SE → Res (Fl × SE)} {D : Ends} (h : OutS X W g (r.bind k) D) : Out X W g r fun g1 x => OutS X W g (k (x, g1.env)) D := by
  cases r with
  | ok y =>
    obtain ⟨x, env'⟩ := y
    intro g1 e1 e2 s1 o1
    rw [e1]
    exact h
  | exc c fs env' => exact fun g2 cls d e1 e2 s2 o2 x2 => by rw [← e2]; exact h g2 cls d e1 s2 o2 x2
  | fail => exact h
def fSeqS (f t : SF) : SF := fun env => (f env).bind fun p => match p.1 with
  | .nx => t p.2
  | _ => .ok p
def fNextS : SF := fun env => .ok (.nx, env)
theorem fss_nil {X : Cx} : FSs X [] fNextS := ⟨fun W tk hp => ⟨fun pins s σ H D I hq => by
  obtain ⟨g, rfl, rfl, ok, o⟩ := hq
  exact pss_nil.run pins s g.st g.H D I (o g rfl (.refl g) ok)⟩⟩
theorem fss_one {X : Cx} {st : Stmt} {f : SF} (h : FS X st f) : FSs X [st] f := ⟨fun W tk hp => pss_one (h.ps W tk hp)⟩
theorem fss_cons {X : Cx} {st : Stmt} {rest : List Stmt} {f t : SF} (h : FS X st f) (ht : FSs X rest t) : FSs X (st :: rest) (fSeqS f t) := by
  refine ⟨fun W tk hp => ⟨fun pins s σ H D I hq => ?_⟩⟩
  obtain ⟨g, rfl, rfl, ok, o⟩ := hq
  refine (pss_cons (h.ps W tk hp) (ht.pss W tk hp)).run pins s g.st g.H D I ⟨g, rfl, rfl, ok, ?_⟩
  unfold fSeqS at o
  cases hf : f g.env with
  | ok y =>
    rw [hf] at o
    obtain ⟨x, env'⟩ := y
    cases x with
    | nx =>
      intro g1 e1 s1 o1
      refine ⟨g1, rfl, rfl, o1, ?_⟩
      rw [e1]
      exact OutS.rebase ok s1 o
    | bk => exact o
    | ct => exact o
    | rt r => exact o
  | exc c fs env' => rw [hf] at o; exact o
  | fail => rw [hf] at o; exact o
def fIfS (c : TF) (a b : SF) : SF := fun env => (c env).bind fun p => if p.1 = true then a p.2 else b p.2
theorem fs_if {X : Cx} {c : Expr} {a b : List Stmt} {fc : TF} {fa fb : SF} {pos : Pos} (hc : FT X c fc) (ha : FSs X a fa) (hb : FSs X b fb) : FS X (.If c a b pos) (fIfS fc fa fb) := by
  refine ⟨fun W tk hp => ⟨fun pins s σ H D I hq => ?_⟩⟩
  obtain ⟨g, rfl, rfl, ok, o⟩ := hq
  refine (ps_if (hc.pt W tk) (ha.pss W tk hp) (hb.pss W tk hp)).run pins s g.st g.H D I ⟨g, rfl, rfl, ok, (OutS.bindE o).imp fun g1 b st e o1 p => ?_⟩
  cases b with
  | true => exact ⟨g1, e, rfl, o1, OutS.rebase ok st p⟩
  | false => exact ⟨g1, e, rfl, o1, OutS.rebase ok st p⟩
def fRet (f : EF) : SF := fun env => (f env).bind fun p => match p.1 with
  | .d x => .ok (.rt (.d x), p.2)
  | .tmp c => .ok (.rt (.tmp c), p.2)
  | .slot i => match p.2[i]? with
    | some (some (.d x)) => .ok (.rt (.d x), p.2)
    | some (some (.cell .own c)) => .ok (.rt (.tmp c), p.2)
    | _ => .fail
theorem fs_ret {X : Cx} {e : Expr} {f : EF} {pos : Pos} (h : FE X e f) : FS X (.Return (some e) pos) (fRet f) := by
  refine ⟨fun W tk hp => ⟨fun pins s σ H D I hq => ?_⟩⟩
  obtain ⟨g, rfl, rfl, ok, o⟩ := hq
  refine (ps_ret (h.pe W tk)).run pins s g.st g.H D I ⟨g, rfl, rfl, ok, (OutS.bindE o).imp fun g1 rv st e o1 p v rr => ?_⟩
  cases rv with
  | d x => exact p g1 v rfl st o1 rr
  | tmp c =>
    obtain ⟨a, h1, h2, h3, h4, _⟩ := rr
    exact p g1 v rfl st o1 ⟨a, h1, h2, h3, .inl h4⟩
  | slot i =>
    have h1 : g1.st[i]? = some (some v) := rr
    simp only at p
    split at p
    · rename_i x hi
      obtain ⟨w, q1, q2⟩ := o1.dat i x hi
      rw [h1] at q1; cases q1
      exact p g1 _ rfl st o1 q2
    · rename_i c hi
      obtain ⟨a, q1, q2, q3⟩ := o1.cel i _ c hi
      have q1' := q1
      rw [h1] at q1; cases q1
      refine p g1 _ rfl st o1 ⟨a, rfl, q2, q3, .inr ⟨⟨i, .own, c, hi, by simp, q1'⟩, fun ⟨j, c', z1, z2⟩ => ?_⟩⟩
      have := o1.dis j i _ _ _ _ a z1 hi z2 q1'
      subst this
      rw [hi] at z1; cases z1
    · exact p.elim
def fExpr (f : EF) : SF := fun env => (f env).bind fun p => .ok (.nx, p.2)
theorem fs_expr {X : Cx} {e : Expr} {f : EF} {pos : Pos} (h : FE X e f) (hs : swapsWith e none pos.line X.env = pure false := by rfl) : FS X (.Expr e pos) (fExpr f) := by
  refine ⟨fun W tk hp => ⟨fun pins s σ H D I hq => ?_⟩⟩
  obtain ⟨g, rfl, rfl, ok, o⟩ := hq
  exact (ps_expr (h.pe W tk) hs).run pins s g.st g.H D I ⟨g, rfl, rfl, ok, (OutS.bindE o).imp fun g1 rv st e o1 p v rr => by rw [← e]; exact p g1 rfl st o1⟩
theorem fs_pass {X : Cx} {pos : Pos} : FS X (.Pass pos) fNextS := ⟨fun W tk hp => ⟨fun pins s σ H D I hq => by
  obtain ⟨g, rfl, rfl, ok, o⟩ := hq
  exact ps_pass.run pins s g.st g.H D I (o g rfl (.refl g) ok)⟩⟩
def fBrk : SF := fun env => .ok (.bk, env)
def fCnt : SF := fun env => .ok (.ct, env)
theorem fs_brk {X : Cx} {pos : Pos} : FS X (.Break pos) fBrk := ⟨fun W tk hp => ⟨fun pins s σ H D I hq => by
  obtain ⟨g, rfl, rfl, ok, o⟩ := hq
  exact ps_break.run pins s g.st g.H D I (o g rfl (.refl g) ok)⟩⟩
theorem fs_cnt {X : Cx} {pos : Pos} : FS X (.Continue pos) fCnt := ⟨fun W tk hp => ⟨fun pins s σ H D I hq => by
  obtain ⟨g, rfl, rfl, ok, o⟩ := hq
  exact ps_continue.run pins s g.st g.H D I (o g rfl (.refl g) ok)⟩⟩
/-- code that is never come to -/
def fNever : SF := fun _ => .fail
theorem fs_never {X : Cx} {st : Stmt} : FS X st fNever := ⟨fun W tk hp => ⟨fun pins s σ H D I hq => by
  obtain ⟨g, rfl, rfl, ok, o⟩ := hq
  exact o.elim⟩⟩
end BH

set_option maxRecDepth 100000
set_option maxHeartbeats 2000000
namespace BH
open PySem PySem.Spec PyProof.Rows L2

/-! ### a result goes into a slot -/
/-- a name's own object becomes data ahead of a second name for it -/
def RV.norm : RV → SE → Option (RV × SE)
  | .d x, env => some (.d x, env)
  | .tmp c, env => some (.tmp c, env)
  | .slot i, env => match (RV.slot i).take env with
    | some (x, env') => some (.d x, env')
    | none => none
def RV.mv : RV → Option MV
  | .d x => some (.d x)
  | .tmp c => some (.cell .own c)
  | .slot _ => none
def asg (r : RV) (env : SE) (i : Nat) : Option SE := match r.norm env with
  | some (r', env') => match r'.mv with
    | some mv => setS env' i mv
    | none => none
  | none => none
section
variable {K : PySem.W.Frag}
theorem RVR.norm {H0 : Hp} {g : G} {r r' : RV} {v : V} {env' : SE} (ok : g.Ok K) (h : RVR K H0 g r v) (e : r.norm g.env = some (r', env')) :
    ∃ g' : G, g'.env = env' ∧ g'.st = g.st ∧ g'.H = g.H ∧ Stp g g' ∧ g'.Ok K ∧ RVR K H0 g' r' v ∧ (∀ i, r' ≠ .slot i) := by
  cases r with
  | d x => cases e; exact ⟨g, rfl, rfl, rfl, .refl g, ok, h, fun _ z => by cases z⟩
  | tmp c => cases e; exact ⟨g, rfl, rfl, rfl, .refl g, ok, h, fun _ z => by cases z⟩
  | slot i =>
    simp only [RV.norm] at e
    cases ht : (RV.slot i).take g.env with
    | none => rw [ht] at e; cases e
    | some q =>
      obtain ⟨x, env2⟩ := q
      rw [ht] at e
      cases e
      obtain ⟨g2, k1, k2, k3, k4, k5, k6⟩ := RVR.take (g := g) ok (.refl g) rfl ok (r := .slot i) h ht
      exact ⟨g2, k1, k2, k3, k4, k5, k6, fun _ z => by cases z⟩
/-- a new object of ours goes into a slot -/
theorem set_cell {g : G} {i : Nat} {c : Cell} {a : Addr} {env' : SE} (ok : g.Ok K) (hA : g.A a) (hc : CellR K g.A g.H c a) (hn : ¬ Has g a) (h : setS g.env i (.cell .own c) = some env') :
    ({ g with st := g.st.set i (some (.ref a)), env := env' } : G).Ok K ∧ (∀ b, Own { g with st := g.st.set i (some (.ref a)), env := env' } b → Own g b ∨ b = a) ∧ (∀ b, Has { g with st := g.st.set i (some (.ref a)), env := env' } b → Has g b ∨ b = a) ∧
      (∀ (j : Nat) c', g.env[j]? = some (some (.cell .bor c')) → (g.st.set i (some (V.ref a)))[j]? = g.st[j]? ∧ env'[j]? = some (some (.cell .bor c'))) ∧
      (∀ (j : Nat) c', g.env[j]? = some (some (.cell .lock c')) → (g.st.set i (some (V.ref a)))[j]? = g.st[j]? ∧ env'[j]? = some (some (.cell .lock c'))) := by
  unfold setS at h
  have core : ∀ o, g.env[i]? = some o → (∀ c, o ≠ some (.cell .bor c)) → (∀ c, o ≠ some (.cell .lock c)) → env' = g.env.set i (some (.cell .own c)) → (
      ({ g with st := g.st.set i (some (.ref a)), env := env' } : G).Ok K ∧ (∀ b, Own { g with st := g.st.set i (some (.ref a)), env := env' } b → Own g b ∨ b = a) ∧ (∀ b, Has { g with st := g.st.set i (some (.ref a)), env := env' } b → Has g b ∨ b = a) ∧
      (∀ (j : Nat) c', g.env[j]? = some (some (.cell .bor c')) → (g.st.set i (some (V.ref a)))[j]? = g.st[j]? ∧ env'[j]? = some (some (.cell .bor c'))) ∧
      (∀ (j : Nat) c', g.env[j]? = some (some (.cell .lock c')) → (g.st.set i (some (V.ref a)))[j]? = g.st[j]? ∧ env'[j]? = some (some (.cell .lock c')))) := by
    intro o hi nb nl e
    subst e
    have hil : i < g.env.length := (List.getElem?_eq_some_iff.mp hi).1
    have his : i < g.st.length := by rw [ok.len]; exact hil
    have stn : ∀ j, j ≠ i → (g.st.set i (some (.ref a)))[j]? = g.st[j]? := fun j e => List.getElem?_set_ne (Ne.symm e)
    have sti : (g.st.set i (some (V.ref a)))[i]? = some (some (.ref a)) := List.getElem?_set_self his
    have get : ∀ {j : Nat} {mv : MV}, (g.env.set i (some (.cell .own c)))[j]? = some (some mv) → (j ≠ i ∧ g.env[j]? = some (some mv)) ∨ (j = i ∧ mv = .cell .own c) := fun {j mv} h => by
      by_cases e : j = i
      · subst e
        rw [List.getElem?_set_self hil] at h
        simp only [Option.some.injEq] at h
        exact .inr ⟨rfl, h.symm⟩
      · rw [List.getElem?_set_ne (Ne.symm e)] at h
        exact .inl ⟨e, h⟩
    have other : ∀ {j : Nat} {m c'} {b : Addr}, g.env[j]? = some (some (.cell m c')) → g.st[j]? = some (some (.ref b)) → b ≠ a := fun {j m c' b} h1 h2 z => hn ⟨j, m, c', h1, by rw [← z]; exact h2⟩
    refine ⟨⟨by simpa using ok.len, fun j y hj => ?_, fun j m c1 hj => ?_, fun j k m c1 m' c2 b hj hk e1 e2 => ?_, ok.dom⟩, fun b hb => ?_, fun b hb => ?_, fun j c1 hj => ?_, fun j c1 hj => ?_⟩
    · rcases get hj with ⟨e, hj⟩ | ⟨_, hj⟩
      · show ∃ w, (g.st.set i (some (V.ref a)))[j]? = _ ∧ _
        rw [stn j e]; exact ok.dat j y hj
      · cases hj
    · rcases get hj with ⟨e, hj⟩ | ⟨e, hj⟩
      · show ∃ w, (g.st.set i (some (V.ref a)))[j]? = _ ∧ _
        rw [stn j e]; exact ok.cel j m c1 hj
      · cases hj; subst e
        exact ⟨a, sti, hA, hc⟩
    · have e1 : (g.st.set i (some (V.ref a)))[j]? = _ := e1
      have e2 : (g.st.set i (some (V.ref a)))[k]? = _ := e2
      rcases get hj with ⟨n1, hj'⟩ | ⟨n1, hj'⟩ <;> rcases get hk with ⟨n2, hk'⟩ | ⟨n2, hk'⟩
      · rw [stn j n1] at e1
        rw [stn k n2] at e2
        exact ok.dis j k m c1 m' c2 b hj' hk' e1 e2
      · rw [n2, sti] at e2; cases e2
        rw [stn j n1] at e1
        exact absurd rfl (other hj' e1)
      · rw [n1, sti] at e1; cases e1
        rw [stn k n2] at e2
        exact absurd rfl (other hk' e2)
      · rw [n1, n2]
    · rcases own_set stn hb with q | ⟨m, c1, q, q2, q3⟩
      · exact .inl q
      · rw [sti] at q3; cases q3; exact .inr rfl
    · rcases has_set stn hb with q | ⟨m, c1, q, q3⟩
      · exact .inl q
      · rw [sti] at q3; cases q3; exact .inr rfl
    · have : j ≠ i := by rintro rfl; rw [hi] at hj; exact nb c1 (Option.some.inj hj)
      exact ⟨stn j this, by rw [List.getElem?_set_ne (Ne.symm this)]; exact hj⟩
    · have : j ≠ i := by rintro rfl; rw [hi] at hj; exact nl c1 (Option.some.inj hj)
      exact ⟨stn j this, by rw [List.getElem?_set_ne (Ne.symm this)]; exact hj⟩
  split at h
  · cases h
  · cases h
  · rename_i o nb nl hi
    cases h
    exact core o hi (fun c z => nb c z) (fun c z => nl c z) rfl
  · cases h
/-- .. from the state g0 on -/
theorem set_rv {g0 g : G} {i : Nat} {r : RV} {v : V} {mv : MV} {env' : SE} (ok0 : g0.Ok K) (s : Stp g0 g) (ok : g.Ok K) (h : RVR K g0.H g r v) (e : r.mv = some mv) (hs : setS g.env i mv = some env') :
    Stp g0 { g with st := g.st.set i (some v), env := env' } ∧ ({ g with st := g.st.set i (some v), env := env' } : G).Ok K := by
  cases r with
  | d x =>
    cases e
    obtain ⟨s1, o1⟩ := set_data ok h hs
    exact ⟨s.trans ok0 s1, o1⟩
  | tmp c =>
    cases e
    obtain ⟨a, rfl, hA, hc, hf, hn⟩ := h
    obtain ⟨o1, h1, h2, h3, h4⟩ := set_cell ok hA hc hn hs
    refine ⟨⟨s.ext, fun b hb => ?_, fun b hb => ?_, fun j c1 hj => ?_, fun j c1 hj => ?_⟩, o1⟩
    · rcases h1 b hb with q | q
      · exact s.own b q
      · rw [q]; exact .inr hf
    · rcases h2 b hb with q | q
      · exact s.has b q
      · rw [q]; exact .inr hf
    · obtain ⟨e1, c2, e2⟩ := s.bor j c1 hj
      obtain ⟨e3, e4⟩ := h3 j c2 e2
      exact ⟨e3.trans e1, c2, e4⟩
    · obtain ⟨e1, e2⟩ := s.lck j c1 hj
      obtain ⟨e3, e4⟩ := h4 j c1 e2
      exact ⟨e3.trans e1, e4⟩
  | slot j => cases e
theorem asg_rv {g0 g : G} {i : Nat} {r : RV} {v : V} {env' : SE} (ok0 : g0.Ok K) (s : Stp g0 g) (ok : g.Ok K) (h : RVR K g0.H g r v) (hs : asg r g.env i = some env') :
    ∃ g' : G, g'.env = env' ∧ g'.st = g.st.set i (some v) ∧ g'.H = g.H ∧ Stp g0 g' ∧ g'.Ok K := by
  unfold asg at hs
  cases hn : r.norm g.env with
  | none => rw [hn] at hs; cases hs
  | some q =>
    obtain ⟨r', env1⟩ := q
    rw [hn] at hs
    simp only at hs
    obtain ⟨g1, k1, k2, k3, k4, k5, k6, _⟩ := h.norm ok hn
    cases hm : r'.mv with
    | none => rw [hm] at hs; cases hs
    | some mv =>
      rw [hm] at hs
      simp only at hs
      rw [← k1] at hs
      obtain ⟨s1, o1⟩ := set_rv ok0 (s.trans ok0 k4) k5 k6 hm hs
      exact ⟨{ g1 with st := g1.st.set i (some v), env := env' }, rfl, by simp only [k2], k3, s1, o1⟩
/-- an own list is changed -/
theorem poke {g : G} {i : Nat} {m : Mode} {c : Cell} {a : Addr} {xs : List PyData} {vs ws : List V} (ok : g.Ok K) (hi : g.env[i]? = some (some (.cell m c))) (hm : m ≠ .lock) (hst : g.st[i]? = some (some (.ref a))) (hH : g.H a = some (.lst vs)) (hd : Dvs K g.A g.H xs ws) :
    Stp g { g with H := upd g.H a (.lst ws), env := g.env.set i (some (.cell m (.lst xs))) } ∧ ({ g with H := upd g.H a (.lst ws), env := g.env.set i (some (.cell m (.lst xs))) } : G).Ok K := by
  have own : Own g a := ⟨i, m, c, hi, hm, hst⟩
  have hA : g.A a := Own.sub ok a own
  have hil : i < g.env.length := (List.getElem?_eq_some_iff.mp hi).1
  have e : Ext (fun b => b = a) g.A g.H g.A (upd g.H a (.lst ws)) :=
    ⟨fun b o h n => by rw [upd_ne n]; exact h, fun b o h => by rw [upd_ne (fun z => by rw [z, hH] at h; cases h)]; exact h, fun b o u h => by rw [upd_ne (fun z => by rw [z, hH] at h; cases h)]; exact h,
      fun b h => by by_cases z : b = a; (rw [z, upd_same]; simp); (rw [upd_ne z]; exact h), fun b h _ => h, fun b h => .inl h⟩
  have sub : ∀ b, b = a → g.A b := fun b z => by rw [z]; exact hA
  have get : ∀ {j : Nat} {mv : MV}, (g.env.set i (some (.cell m (.lst xs))))[j]? = some (some mv) → (j ≠ i ∧ g.env[j]? = some (some mv)) ∨ (j = i ∧ mv = .cell m (.lst xs)) := fun {j mv} h => by
    by_cases e : j = i
    · subst e
      rw [List.getElem?_set_self hil] at h
      simp only [Option.some.injEq] at h
      exact .inr ⟨rfl, h.symm⟩
    · rw [List.getElem?_set_ne (Ne.symm e)] at h
      exact .inl ⟨e, h⟩
  have cl : ∀ {j : Nat} {m' c'}, (g.env.set i (some (.cell m (.lst xs))))[j]? = some (some (.cell m' c')) → ∃ c2, g.env[j]? = some (some (.cell m' c2)) := fun {j m' c'} h => by
    rcases get h with ⟨_, h⟩ | ⟨e, h⟩
    · exact ⟨_, h⟩
    · cases h; subst e; exact ⟨_, hi⟩
  refine ⟨⟨⟨fun b o h n => e.keep b o h fun z => n (by rw [z]; exact own), e.tup, e.frz, e.dom, fun b h _ => h, fun b h => .inl h⟩, fun b hb => ?_, fun b hb => ?_, fun j c1 hj => ?_, fun j c1 hj => ?_⟩, ⟨by simpa using ok.len, fun j y hj => ?_, fun j m1 c1 hj => ?_, fun j k m1 c1 m2 c2 b hj hk e1 e2 => ?_, fun b hb => e.dom b (ok.dom b hb)⟩⟩
  · obtain ⟨j, m1, c1, h1, h2, h3⟩ := hb
    obtain ⟨c2, h1⟩ := cl h1
    exact .inl ⟨j, m1, c2, h1, h2, h3⟩
  · obtain ⟨j, m1, c1, h1, h3⟩ := hb
    obtain ⟨c2, h1⟩ := cl h1
    exact .inl ⟨j, m1, c2, h1, h3⟩
  · refine ⟨rfl, ?_⟩
    by_cases z : j = i
    · subst z
      rw [hi] at hj; cases hj
      exact ⟨.lst xs, by show (g.env.set j _)[j]? = _; rw [List.getElem?_set_self hil]⟩
    · exact ⟨c1, by show (g.env.set i _)[j]? = _; rw [List.getElem?_set_ne (Ne.symm z)]; exact hj⟩
  · have : j ≠ i := by rintro rfl; rw [hi] at hj; cases hj; exact hm rfl
    exact ⟨rfl, by show (g.env.set i _)[j]? = _; rw [List.getElem?_set_ne (Ne.symm this)]; exact hj⟩
  · rcases get hj with ⟨_, hj⟩ | ⟨_, hj⟩
    · obtain ⟨v, h1, h2⟩ := ok.dat j y hj
      exact ⟨v, h1, Dv.ext e sub y v h2⟩
    · cases hj
  · rcases get hj with ⟨z, hj⟩ | ⟨z, hj⟩
    · obtain ⟨b, h1, h2, h3⟩ := ok.cel j m1 c1 hj
      have hb : b ≠ a := fun q => z (ok.dis j i _ _ _ _ a hj hi (by rw [← q]; exact h1) hst)
      refine ⟨b, h1, h2, ?_⟩
      cases c1 with
      | lst ys => obtain ⟨us, q, r⟩ := h3; exact ⟨us, e.keep _ _ q hb, Dvs.ext e sub ys us r⟩
      | _ => exact h3.elim
    · cases hj; subst z
      exact ⟨a, hst, hA, ws, upd_same, Dvs.ext e sub xs ws hd⟩
  · obtain ⟨c3, hj⟩ := cl hj
    obtain ⟨c4, hk⟩ := cl hk
    exact ok.dis j k m1 c3 m2 c4 b hj hk e1 e2
end
def fSet (i : Nat) (f : EF) : SF := fun env => (f env).bind fun p => match asg p.1 p.2 i with
  | some env' => .ok (.nx, env')
  | none => .fail
theorem set_end {X : Cx} {W : WX} {g g1 : G} {i : Nat} {rv : RV} {v : V} {D : Ends} (ok : g.Ok X.K) (st : Stp g g1) (e : g1.st = g.st) (o1 : g1.Ok X.K) (rr : RVR X.K g.H g1 rv v)
    (p : OutS X W g (match asg rv g1.env i with | some env' => .ok (.nx, env') | none => .fail) D) : D.nx (g.st.set i (some v)) g1.H := by
  cases ha : asg rv g1.env i with
  | none => rw [ha] at p; exact p.elim
  | some env' =>
    rw [ha] at p
    obtain ⟨g', k1, k2, k3, k4, k5⟩ := asg_rv ok st o1 rr ha
    have := p g' k1 k4 k5
    rw [k2, k3, e] at this
    exact this
theorem fs_set {X : Cx} {i : Nat} {x : Str} {e : Expr} {f : EF} {pos pos' : Pos} (hN : X.N.Nodup) (hi : X.N[i]? = some x) (hx : Loc X.env.scope x) (h : FE X e f) (hs : swapsWith e (some (.Name x pos')) pos.line X.env = pure false := by rfl)
    (hf : X.fn x = true ∨ X.env.scope.names.lookup x = some .local := by first | exact .inl rfl | exact .inr rfl | assumption) : FS X (.Assign [.Name x pos'] e pos) (fSet i f) := by
  refine ⟨fun W tk hp => ⟨fun pins s σ H D I hq => ?_⟩⟩
  obtain ⟨g, rfl, rfl, ok, o⟩ := hq
  exact (ps_set hN hi hx (h.pe W tk) hs hf).run pins s g.st g.H D I ⟨g, rfl, rfl, ok, (OutS.bindE o).imp fun g1 rv st e o1 p v rr => set_end ok st e o1 rr p⟩
/-- a further value is held over a store -/
theorem set_keep {K : PySem.W.Frag} {H0 : Hp} {g : G} {i : Nat} {r1 r2 : RV} {v w : V} {mv : MV} {env' : SE} (hm : r1.mv = some mv) (hs : setS g.env i mv = some env') (hr : ∀ k, r2 ≠ .slot k) (h : RVR K H0 g r2 w) (hi : i < g.st.length)
    (hne : (∃ c, r1 = .tmp c) → (∃ c, r2 = .tmp c) → w ≠ v) : RVR K H0 { g with st := g.st.set i (some v), env := env' } r2 w := by
  cases r2 with
  | d x => exact h
  | slot k => exact absurd rfl (hr k)
  | tmp c =>
    obtain ⟨a, rfl, h1, h2, h3, h4⟩ := h
    refine ⟨a, rfl, h1, h2, h3, fun z => ?_⟩
    have e : env' = g.env.set i (some mv) := by
      unfold setS at hs
      split at hs
      · cases hs
      · cases hs
      · cases hs; rfl
      · cases hs
    rw [e] at z
    rcases has_set (g := g) (fun j hj => List.getElem?_set_ne (Ne.symm hj)) z with q | ⟨m, c1, q, q2⟩
    · exact h4 q
    · cases r1 with
      | tmp c2 =>
        rw [List.getElem?_set_self hi] at q2
        exact hne ⟨_, rfl⟩ ⟨_, rfl⟩ (Option.some.inj (Option.some.inj q2)).symm
      | d x => cases hm; cases q
      | slot k => cases hm
theorem setS_lt {env env' : SE} {i : Nat} {mv : MV} (h : setS env i mv = some env') : i < env.length := by
  unfold setS at h
  split at h
  · cases h
  · cases h
  · rename_i hi; exact (List.getElem?_eq_some_iff.mp hi).1
  · cases h
/-- a, b = x, y with plain local names -/
def fPar (i j : Nat) (f : EFs) : SF := fun env => (f env).bind fun p => match p.1 with
  | [r1, r2] => match r1.norm p.2 with
    | some (r1', env1) => match r2.norm env1 with
      | some (r2', env2) => match r1'.mv, r2'.mv with
        | some m1, some m2 => match setS env2 i m1 with
          | some env3 => match setS env3 j m2 with
            | some env4 => .ok (.nx, env4)
            | none => .fail
          | none => .fail
        | _, _ => .fail
      | none => .fail
    | none => .fail
  | _ => .fail
theorem norm_tmp {r r' : RV} {env env' : SE} (h : r.norm env = some (r', env')) : (∃ c, r' = .tmp c) → ∃ c, r = .tmp c := by
  rintro ⟨c, rfl⟩
  cases r with
  | d x => cases h
  | tmp c => exact ⟨c, rfl⟩
  | slot i =>
    simp only [RV.norm] at h
    split at h
    · cases h
    · cases h
theorem fs_par {X : Cx} {i j : Nat} {x y : Str} {a b : Expr} {f : EFs} {px py pt pos : Pos} {kt k2 pt2} (hc : X.calm = true) (hN : X.N.Nodup) (hi : X.N[i]? = some x) (hj : X.N[j]? = some y) (hij : i ≠ j)
    (hx : X.env.scope.names.lookup x = some .local) (hy : X.env.scope.names.lookup y = some .local) (ha : FPs X [a, b] f)
    (hw : swappedStores [.Tuple [.Name x px, .Name y py] kt pt] (.Tuple [a, b] k2 pt2) X.env = pure (some [x, y]))
    (hs : swapsWithSole [.Tuple [.Name x px, .Name y py] kt pt] (.Tuple [a, b] k2 pt2) pos.line X.env = pure false := by rfl) : FS X (.Assign [.Tuple [.Name x px, .Name y py] kt pt] (.Tuple [a, b] k2 pt2) pos) (fPar i j f) := by
  refine ⟨fun W tk hp => ⟨fun pins s σ H D I hq => ?_⟩⟩
  obtain ⟨g, rfl, rfl, ok, o⟩ := hq
  refine (ps_par hc hN hi hj hij hx hy (ha.pa W tk) hw hs).run pins s g.st g.H D I ⟨g, rfl, rfl, ok, (OutS.bindE o).imp fun g1 rs st e o1 p vs rr => ?_⟩
  split at p
  · rename_i r1 r2 e0
    change rs = [r1, r2] at e0
    subst e0
    obtain ⟨v, t, rfl, rr1, ⟨w, t2, rfl, rr2, rfl, _⟩, ne⟩ := rr
    refine ⟨v, w, rfl, ?_⟩
    cases h1 : r1.norm g1.env with
    | none => rw [h1] at p; exact p.elim
    | some q1 =>
      obtain ⟨r1', env1⟩ := q1
      rw [h1] at p
      obtain ⟨g2, a1, a2, a3, a4, a5, a6, a7⟩ := rr1.norm o1 h1
      have rr2 := rr2.step o1 a4 a2
      simp only at p
      rw [← a1] at p
      cases h2 : r2.norm g2.env with
      | none => rw [h2] at p; exact p.elim
      | some q2 =>
        obtain ⟨r2', env2⟩ := q2
        rw [h2] at p
        obtain ⟨g3, b1, b2, b3, b4, b5, b6, b7⟩ := rr2.norm a5 h2
        have a6 := a6.step a5 b4 b2
        simp only at p
        rw [← b1] at p
        have st3 : Stp g g3 := (st.trans ok a4).trans ok b4
        split at p
        · rename_i m1 m2 hm1 hm2
          cases h3 : setS g3.env i m1 with
          | none => rw [h3] at p; exact p.elim
          | some env3 =>
            rw [h3] at p
            simp only at p
            obtain ⟨s4, o4⟩ := set_rv ok st3 b5 a6 hm1 h3
            have hil : i < g3.st.length := by rw [b5.len]; exact setS_lt h3
            have b6' := set_keep (v := v) hm1 h3 b7 b6 hil fun x1 x2 => by
              obtain ⟨c1, hc1⟩ := norm_tmp h1 x1
              obtain ⟨c2, hc2⟩ := norm_tmp h2 x2
              subst hc2
              exact (ne c1 hc1).1
            cases h4 : setS env3 j m2 with
            | none => rw [h4] at p; exact p.elim
            | some env4 =>
              rw [h4] at p
              obtain ⟨s5, o5⟩ := set_rv (g := { g3 with st := g3.st.set i (some v), env := env3 }) ok s4 o4 b6' hm2 h4
              have := p _ rfl s5 o5
              rw [← e, ← a2, ← b2, ← a3, ← b3]
              exact this
        · exact p.elim
  · exact p.elim
end BH

set_option maxRecDepth 100000
set_option maxHeartbeats 2000000
namespace BH
open PySem PySem.Spec PyProof.Rows L2

/-! ### loops -/
def fUnl (lk : List Nat) (env0 : SE) : Res (Fl × SE) → Res (Fl × SE)
  | .ok (x, e) => .ok (x, unlockAll lk env0 e)
  | .exc c fs e => .exc c fs (unlockAll lk env0 e)
  | .fail => .fail
theorem ret_unlock1 {K : PySem.W.Frag} {g g' : G} {i : Nat} {H0 : Hp} {r : Ret} {v : V} (s : Stp { g with env := lock1 g.env i } g') (ok' : g'.Ok K) (h : RetR K H0 g' r v) : RetR K H0 { g' with env := unlock1 g.env i g'.env } r v := by
  cases r with
  | d x => exact h
  | tmp c =>
    obtain ⟨a, h1, h2, h3, h4⟩ := h
    refine ⟨a, h1, h2, h3, h4.imp id fun ⟨⟨j, m, c1, q1, q2, q3⟩, nb⟩ => ?_⟩
    have same : ∀ e2, unlock1 g.env i g'.env = e2 → e2 = g'.env → Own { g' with env := unlock1 g.env i g'.env } a ∧ ¬ Bor { g' with env := unlock1 g.env i g'.env } a := fun e2 z1 z2 => by
      rw [z1, z2]; exact ⟨⟨j, m, c1, q1, q2, q3⟩, nb⟩
    cases hi : g.env[i]? with
    | none => exact same _ (by unfold unlock1; rw [hi]) rfl
    | some o => cases o with
      | none => exact same _ (by unfold unlock1; rw [hi]) rfl
      | some mv => cases mv with
        | d x => exact same _ (by unfold unlock1; rw [hi]) rfl
        | cell m0 c0 =>
          have e1 : lock1 g.env i = g.env.set i (some (.cell .lock c0)) := by unfold lock1; rw [hi]
          have e2 : unlock1 g.env i g'.env = g'.env.set i (some (.cell m0 c0)) := by unfold unlock1; rw [hi]
          have hil : i < g.env.length := (List.getElem?_eq_some_iff.mp hi).1
          have hl1 : (lock1 g.env i)[i]? = some (some (.cell .lock c0)) := by rw [e1, List.getElem?_set_self hil]
          obtain ⟨z1, z2⟩ := s.lck i c0 hl1
          rw [e2]
          have hj : j ≠ i := fun e => by subst e; rw [z2] at q1; cases q1; exact q2 rfl
          refine ⟨⟨j, m, c1, by show (g'.env.set i _)[j]? = _; rw [List.getElem?_set_ne (Ne.symm hj)]; exact q1, q2, q3⟩, fun ⟨k, c2, y1, y2⟩ => ?_⟩
          have y2 : g'.st[k]? = some (some (.ref a)) := y2
          by_cases e : k = i
          · subst e
            exact hj (ok'.dis j k _ _ _ _ a q1 z2 q3 y2)
          · have y1 : (g'.env.set i _)[k]? = _ := y1
            rw [List.getElem?_set_ne (Ne.symm e)] at y1
            exact nb ⟨k, c2, y1, y2⟩
theorem ret_unlock {K : PySem.W.Frag} {H0 : Hp} {r : Ret} {v : V} : ∀ (lk : List Nat) {g g' : G}, g.Ok K → Stp (lockG lk g) g' → g'.Ok K → RetR K H0 g' r v → RetR K H0 { g' with env := unlockAll lk g.env g'.env } r v
  | [], _, _, _, _, _, h => h
  | i :: q, g, g', ok, s, ok', h => by
    have h1 := ret_unlock q (g := { g with env := lock1 g.env i }) (g' := g') (ok_lock1 ok) s ok' h
    obtain ⟨s2, o2⟩ := unlock_all q (g := { g with env := lock1 g.env i }) (g' := g') (ok_lock1 ok) s ok'
    exact ret_unlock1 (g := g) s2 o2 h1
theorem outS_unlock {X : Cx} {W : WX} {g : G} {lk : List Nat} {r : Res (Fl × SE)} {D : Ends} (ok : g.Ok X.K) (h : OutS X W g (fUnl lk g.env r) D) : OutS X W (lockG lk g) r D := by
  cases r with
  | ok y =>
    obtain ⟨x, env'⟩ := y
    cases x with
    | nx => exact fun g2 e1 s2 o2 => by subst e1; obtain ⟨s3, o3⟩ := unlock_all lk ok s2 o2; exact h { g2 with env := unlockAll lk g.env g2.env } rfl s3 o3
    | bk => exact fun g2 e1 s2 o2 => by subst e1; obtain ⟨s3, o3⟩ := unlock_all lk ok s2 o2; exact h { g2 with env := unlockAll lk g.env g2.env } rfl s3 o3
    | ct => exact fun g2 e1 s2 o2 => by subst e1; obtain ⟨s3, o3⟩ := unlock_all lk ok s2 o2; exact h { g2 with env := unlockAll lk g.env g2.env } rfl s3 o3
    | rt r => exact fun g2 v e1 s2 o2 rr => by subst e1; obtain ⟨s3, o3⟩ := unlock_all lk ok s2 o2; exact h { g2 with env := unlockAll lk g.env g2.env } v rfl s3 o3 (ret_unlock lk ok s2 o2 rr)
  | exc c fs env' => exact fun g2 cls d e1 s2 o2 x2 => by subst e1; obtain ⟨s3, o3⟩ := unlock_all lk ok s2 o2; exact h { g2 with env := unlockAll lk g.env g2.env } cls d rfl s3 o3 x2
  | fail => exact h
def fLoop (b : BF) (body : SF) : List PyData → SE → Res (Fl × SE)
  | [], env => .ok (.nx, env)
  | x :: xs, env => match b x env with
    | none => .fail
    | some e1 => match body e1 with
      | .ok (.nx, e2) => fLoop b body xs e2
      | .ok (.ct, e2) => fLoop b body xs e2
      | .ok (.bk, e2) => .ok (.nx, e2)
      | .ok (.rt r, e2) => .ok (.rt r, e2)
      | .exc c fs e2 => .exc c fs e2
      | .fail => .fail
def fFor (fi : IF) (b : BF) (body : SF) : SF := fun env => (fi env).bind fun p => fUnl p.1.2 p.2 (fLoop b body p.1.1 (lockAll p.1.2 p.2))
theorem Stp.same {g : G} {H' : Hp} (ex : ∀ O, Ext O g.A g.H g.A H') : Stp g { g with H := H' } :=
  ⟨ex _, fun _ h => .inl h, fun _ h => .inl h, fun i c h => ⟨rfl, c, h⟩, fun i c h => ⟨rfl, h⟩⟩
theorem fs_for {X : Cx} {tg iter : Expr} {body : List Stmt} {fi : IF} {vs : List Nat} {b : BF} {fb : SF} {pos : Pos} (hc : X.calm = true) (hi : FI X tg iter fi) (hg : FG X tg vs b) (hb : FSs X body fb)
    (hs : ∀ x, foldedSetIterable iter X.env x = pure x := by first | exact fun _ => rfl | assumption) : FS X (.For tg iter body [] pos) (fFor fi b fb) := by
  refine ⟨fun W tk hp => ⟨fun pins s σ H D I hq => ?_⟩⟩
  obtain ⟨g, rfl, rfl, ok, o⟩ := hq
  refine (ps_for hp hc (hi.pi W tk) hg.pg (hb.pss W tk hp) hs).run pins s g.st g.H D I ⟨g, rfl, rfl, ok, (OutS.bindE o).imp fun g1 p st e o1 q J L hL hJ => ?_⟩
  obtain ⟨ds, lk⟩ := p
  obtain ⟨S, s0, sx, sd, sj⟩ := hJ
  have q := outS_unlock o1 (OutS.rebase ok st q)
  have oL : (lockG lk g1).Ok X.K := ok_lockAll lk o1
  refine ⟨fun i m σ H => m = ds.length - i ∧ i ≤ ds.length ∧ ∃ g2 : G, g2.st = σ ∧ g2.H = H ∧ g2.Ok X.K ∧ Stp (lockG lk g1) g2 ∧ S g2.A g2.H ∧ OutS X W g2 (fLoop b fb (ds.drop i) g2.env) D, ⟨ds.length, rfl, Nat.zero_le _, lockG lk g1, e, rfl, oL, .refl _, s0, q⟩, ?_⟩
  rintro i m σ' H' ⟨rfl, hle, g2, rfl, rfl, o2, s2, ss, oo⟩
  by_cases hlt : i < ds.length
  · obtain ⟨go, yl⟩ := (sj _ _ ss).1 i _ (List.getElem?_eq_getElem hlt)
    rw [List.drop_eq_getElem_cons hlt] at oo
    simp only [fLoop] at oo
    refine .inr ⟨go, fun σ' H' => ∃ g4 : G, g4.st = σ' ∧ g4.H = H' ∧ g4.Ok X.K ∧ Stp (lockG lk g1) g4 ∧ S g4.A g4.H ∧ OutS X W g4 (fLoop b fb (ds.drop (i + 1)) g4.env) D, ?_, ?_⟩
    · rintro σ' H' ⟨g4, h1, h2, h3, h4, h5, h6⟩
      exact ⟨ds.length - (i + 1), by omega, rfl, hlt, g4, h1, h2, h3, h4, h5, h6⟩
    · intro x H' hy
      obtain ⟨ex, dv⟩ := yl x H' hy
      have s3 : Stp g2 { g2 with H := H' } := Stp.same ex
      have o3 : ({ g2 with H := H' } : G).Ok X.K := o2.ext (ex _) (fun _ h => h) (fun a h => (ex (fun _ => False)).dom a (o2.dom a h))
      cases hb1 : b ds[i] g2.env with
      | none => rw [hb1] at oo; exact oo.elim
      | some env1 =>
        rw [hb1] at oo
        refine ⟨{ g2 with H := H' }, ds[i], env1, rfl, rfl, o3, dv, hb1, fun g4 e4 a4 f4 s4 o4 h4 => ⟨g4, rfl, rfl, o4, ?_⟩⟩
        rw [e4]
        have s24 : Stp g2 g4 := s3.trans o2 s4
        have next : ∀ g5 : G, Stp g4 g5 → g5.Ok X.K → OutS X W g2 (fLoop b fb (ds.drop (i + 1)) g5.env) D → ∃ g6 : G, g6.st = g5.st ∧ g6.H = g5.H ∧ g6.Ok X.K ∧ Stp (lockG lk g1) g6 ∧ S g6.A g6.H ∧ OutS X W g6 (fLoop b fb (ds.drop (i + 1)) g6.env) D := fun g5 s5 o5 k => by
          have s25 := s24.trans o2 s5
          refine ⟨g5, rfl, rfl, o5, s2.trans oL s25, sx (Own g2) _ _ _ _ ss s25.ext (Own.sub o2) fun a la ow => ?_, OutS.rebase o2 s25 k⟩
          rcases s2.own a ow with z | z
          · exact hL a la z
          · exact sd _ _ s0 a la z
        simp only at oo
        cases hf : fb env1 with
        | ok y =>
          rw [hf] at oo
          obtain ⟨x, env'⟩ := y
          cases x with
          | nx => exact fun g5 e5 s5 o5 => next g5 s5 o5 (by rw [e5]; exact oo)
          | ct => exact fun g5 e5 s5 o5 => next g5 s5 o5 (by rw [e5]; exact oo)
          | bk => exact fun g5 e5 s5 o5 => oo g5 e5 (s24.trans o2 s5) o5
          | rt r => exact fun g5 v e5 s5 o5 rr => oo g5 v e5 (s24.trans o2 s5) o5 (rr.old s24.ext.dom)
        | exc c fs env' => rw [hf] at oo; exact fun g5 cls d e5 s5 o5 x5 => oo g5 cls d e5 (s24.trans o2 s5) o5 x5
        | fail => rw [hf] at oo; exact oo.elim
  · have hi : i = ds.length := by omega
    subst hi
    refine .inl ⟨(sj _ _ ss).2, ?_⟩
    simp only [List.drop_length, fLoop] at oo
    exact oo g2 rfl (.refl g2) o2
/-- while, its turns counted out -/
def fWhileN (c : TF) (body : SF) : Nat → SE → Res (Fl × SE)
  | 0, _ => .fail
  | n + 1, env => match c env with
    | .ok (true, e1) => match body e1 with
      | .ok (.nx, e2) => fWhileN c body n e2
      | .ok (.ct, e2) => fWhileN c body n e2
      | .ok (.bk, e2) => .ok (.nx, e2)
      | .ok (.rt r, e2) => .ok (.rt r, e2)
      | .exc c fs e2 => .exc c fs e2
      | .fail => .fail
    | .ok (false, e1) => .ok (.nx, e1)
    | .exc c fs e2 => .exc c fs e2
    | .fail => .fail
theorem fs_while {X : Cx} {c : Expr} {body : List Stmt} {fc : TF} {fb : SF} {pos : Pos} (n : SE → Nat) (hc : FT X c fc) (hb : FSs X body fb) : FS X (.While c body [] pos) (fun env => fWhileN fc fb (n env) env) := by
  refine ⟨fun W tk hp => ⟨fun pins s σ H D I hq => ?_⟩⟩
  obtain ⟨g, rfl, rfl, ok, o⟩ := hq
  refine (ps_while hp (hc.pt W tk) (hb.pss W tk hp)).run pins s g.st g.H D I ⟨fun m σ H => ∃ g2 : G, g2.st = σ ∧ g2.H = H ∧ g2.Ok X.K ∧ Stp g g2 ∧ OutS X W g2 (fWhileN fc fb m g2.env) D, ⟨n g.env, g, rfl, rfl, ok, .refl g, o⟩, ?_⟩
  rintro m σ H ⟨g2, rfl, rfl, o2, s2, oo⟩
  cases m with
  | zero => exact oo.elim
  | succ m =>
    simp only [fWhileN] at oo
    refine ⟨g2, rfl, rfl, o2, ?_⟩
    cases hf : fc g2.env with
    | ok y =>
      rw [hf] at oo
      obtain ⟨t, env1⟩ := y
      intro g3 e3 q3 s3 o3
      cases t with
      | true =>
        simp only at oo
        refine ⟨fun σ' H' => ∃ g4 : G, g4.st = σ' ∧ g4.H = H' ∧ g4.Ok X.K ∧ Stp g g4 ∧ OutS X W g4 (fWhileN fc fb m g4.env) D, fun σ' H' z => ⟨m, Nat.lt_succ_self m, z⟩, ?_⟩
        refine ⟨g3, q3, rfl, o3, ?_⟩
        rw [e3]
        cases hb : fb env1 with
        | ok y =>
          rw [hb] at oo
          obtain ⟨x, env'⟩ := y
          cases x with
          | nx => exact fun g5 e5 s5 o5 => ⟨g5, rfl, rfl, o5, (s2.trans ok s3).trans ok s5, OutS.rebase o2 (s3.trans o2 s5) (by rw [e5]; exact oo)⟩
          | ct => exact fun g5 e5 s5 o5 => ⟨g5, rfl, rfl, o5, (s2.trans ok s3).trans ok s5, OutS.rebase o2 (s3.trans o2 s5) (by rw [e5]; exact oo)⟩
          | bk => exact fun g5 e5 s5 o5 => oo g5 e5 (s3.trans o2 s5) o5
          | rt r => exact fun g5 v e5 s5 o5 rr => oo g5 v e5 (s3.trans o2 s5) o5 (rr.old s3.ext.dom)
        | exc c fs env' => rw [hb] at oo; exact fun g5 cls d e5 s5 o5 x5 => oo g5 cls d e5 (s3.trans o2 s5) o5 x5
        | fail => rw [hb] at oo; exact oo.elim
      | false =>
        have := oo g3 e3 s3 o3
        rw [q3] at this
        exact this
    | exc c fs env' => rw [hf] at oo; exact fun g5 cls d e5 q5 s5 o5 x5 => by rw [← q5]; exact oo g5 cls d e5 s5 o5 x5
    | fail => rw [hf] at oo; exact oo.elim
end BH

set_option maxRecDepth 100000
set_option maxHeartbeats 2000000
namespace BH
open PySem PySem.Spec PyProof.Rows L2

/-! ### comprehensions -/
def wipeE (env : SE) : List Nat → SE
  | [] => env
  | v :: vs => (wipeE env vs).set v none
def noCell (env : SE) (vs : List Nat) : Bool := vs.all fun i => match env[i]? with
  | some (some (.cell _ _)) => false
  | _ => true
def restE (e0 : SE) : List Nat → SE → SE
  | [], e => e
  | v :: vs, e => match e0[v]? with
    | some o => (restE e0 vs e).set v o
    | none => restE e0 vs e
theorem wipeE_length (env : SE) : ∀ vs : List Nat, (wipeE env vs).length = env.length
  | [] => rfl
  | v :: vs => by unfold wipeE; rw [List.length_set, wipeE_length env vs]
theorem wipeE_out {env : SE} {i : Nat} : ∀ {vs : List Nat}, i ∉ vs → (wipeE env vs)[i]? = env[i]?
  | [], _ => rfl
  | v :: vs, h => by
    simp only [List.mem_cons, not_or] at h
    unfold wipeE
    rw [List.getElem?_set_ne (Ne.symm h.1), wipeE_out h.2]
theorem wipeE_some {env : SE} {i : Nat} {x : MV} : ∀ {vs : List Nat}, (wipeE env vs)[i]? = some (some x) → env[i]? = some (some x) ∧ i ∉ vs
  | [], h => ⟨h, by simp⟩
  | v :: vs, h => by
    unfold wipeE at h
    by_cases hi : v = i
    · subst hi
      rw [List.getElem?_set] at h
      simp only [if_true] at h
      split at h <;> simp at h
    · rw [List.getElem?_set_ne hi] at h
      obtain ⟨h1, h2⟩ := wipeE_some h
      exact ⟨h1, by simp only [List.mem_cons, not_or]; exact ⟨fun e => hi e.symm, h2⟩⟩
theorem restE_length (e0 e : SE) : ∀ vs : List Nat, (restE e0 vs e).length = e.length
  | [] => rfl
  | v :: vs => by unfold restE; split <;> simp [restE_length e0 e vs]
theorem restE_out {e0 e : SE} {i : Nat} : ∀ {vs : List Nat}, i ∉ vs → (restE e0 vs e)[i]? = e[i]?
  | [], _ => rfl
  | v :: vs, h => by
    simp only [List.mem_cons, not_or] at h
    unfold restE
    split
    · rw [List.getElem?_set_ne (Ne.symm h.1), restE_out h.2]
    · exact restE_out h.2
theorem restE_in {e0 e : SE} {i : Nat} (hl : e.length = e0.length) : ∀ {vs : List Nat}, i ∈ vs → (restE e0 vs e)[i]? = e0[i]?
  | [], h => by cases h
  | v :: vs, h => by
    unfold restE
    by_cases e1 : v = i
    · subst e1
      split
      · rename_i o ho
        have := (List.getElem?_eq_some_iff.mp ho).1
        rw [List.getElem?_set_self (by rw [restE_length, hl]; exact this), ho]
      · rename_i ho
        rw [ho, List.getElem?_eq_none_iff, restE_length, hl]
        exact List.getElem?_eq_none_iff.mp ho
    · have h2 : i ∈ vs := by
        rcases List.mem_cons.mp h with z | z
        · exact absurd z.symm e1
        · exact z
      split
      · rw [List.getElem?_set_ne e1, restE_in hl h2]
      · exact restE_in hl h2
theorem wipe_in {σ : L2.St} {i : Nat} : ∀ {vs : List Nat}, i ∈ vs → i < σ.length → (wipe σ vs)[i]? = some none
  | [], h, _ => by cases h
  | v :: vs, h, hl => by
    unfold wipe
    by_cases e1 : v = i
    · subst e1
      rw [List.getElem?_set_self (by rw [wipe_length]; exact hl)]
    · rw [List.getElem?_set_ne e1]
      refine wipe_in ?_ hl
      rcases List.mem_cons.mp h with z | z
      · exact absurd z.symm e1
      · exact z
theorem wipe_same {σ σ2 : L2.St} {vs : List Nat} (hl : σ2.length = σ.length) (h : ∀ j, j ∉ vs → σ2[j]? = σ[j]?) : wipe σ2 vs = wipe σ vs := by
  apply List.ext_getElem?
  intro j
  by_cases hj : j ∈ vs
  · by_cases hl2 : j < σ.length
    · rw [wipe_in hj hl2, wipe_in hj (by rw [hl]; exact hl2)]
    · rw [List.getElem?_eq_none_iff.mpr (by rw [wipe_length]; omega), List.getElem?_eq_none_iff.mpr (by rw [wipe_length]; omega)]
  · rw [wipe_out hj, wipe_out hj, h j hj]
theorem noCell_not {env : SE} {vs : List Nat} (h : noCell env vs = true) {i : Nat} (hi : i ∈ vs) {m : Mode} {c : Cell} : env[i]? ≠ some (some (.cell m c)) := fun e => by
  have := List.all_eq_true.mp h i hi
  rw [e] at this
  cases this
def wipeG (vs : List Nat) (g : G) : G := { g with st := wipe g.st vs, env := wipeE g.env vs }
section
variable {K : PySem.W.Frag} {g g' : G} {vs : List Nat}
theorem own_wipe {a : Addr} (h : Own (wipeG vs g) a) : Own g a := by
  obtain ⟨i, m, c, h1, h2, h3⟩ := h
  exact ⟨i, m, c, (wipeE_some h1).1, h2, (wipe_some h3).1⟩
theorem has_wipe {a : Addr} (h : Has (wipeG vs g) a) : Has g a := by
  obtain ⟨i, m, c, h1, h3⟩ := h
  exact ⟨i, m, c, (wipeE_some h1).1, (wipe_some h3).1⟩
theorem ok_wipe (ok : g.Ok K) : (wipeG vs g).Ok K where
  len := by show (wipe g.st vs).length = (wipeE g.env vs).length; rw [wipe_length, wipeE_length]; exact ok.len
  dat := fun i x h => by
    obtain ⟨h1, h2⟩ := wipeE_some h
    show ∃ v, (wipe g.st vs)[i]? = _ ∧ _
    rw [wipe_out h2]
    exact ok.dat i x h1
  cel := fun i m c h => by
    obtain ⟨h1, h2⟩ := wipeE_some h
    show ∃ v, (wipe g.st vs)[i]? = _ ∧ _
    rw [wipe_out h2]
    exact ok.cel i m c h1
  dis := fun i j m c m' c' a hi hj e1 e2 => ok.dis i j m c m' c' a (wipeE_some hi).1 (wipeE_some hj).1 (wipe_some e1).1 (wipe_some e2).1
  dom := ok.dom
/-- behind a turn the block's slots are as they were -/
theorem rest_step (ok : g.Ok K) (nc : noCell g.env vs = true) (s : Stp (wipeG vs g) g') (ok' : g'.Ok K) (hw : wipe g'.st vs = wipe g.st vs) :
    Stp g { g' with st := g.st, env := restE g.env vs g'.env } ∧ ({ g' with st := g.st, env := restE g.env vs g'.env } : G).Ok K ∧ ∀ a, Has { g' with st := g.st, env := restE g.env vs g'.env } a → Has g' a := by
  have hl : g'.env.length = g.env.length := by
    rw [← ok'.len, ← ok.len]
    have := congrArg List.length hw
    rw [wipe_length, wipe_length] at this
    exact this
  have get : ∀ {j : Nat} {mv : MV}, (restE g.env vs g'.env)[j]? = some (some mv) → (j ∈ vs ∧ g.env[j]? = some (some mv)) ∨ (j ∉ vs ∧ g'.env[j]? = some (some mv) ∧ g.st[j]? = g'.st[j]?) := fun {j mv} h => by
    by_cases hj : j ∈ vs
    · rw [restE_in hl hj] at h; exact .inl ⟨hj, h⟩
    · rw [restE_out hj] at h
      exact .inr ⟨hj, h, by rw [← wipe_out (σ := g.st) hj, ← hw, wipe_out hj]⟩
  have cl : ∀ {j : Nat} {m c}, (restE g.env vs g'.env)[j]? = some (some (.cell m c)) → j ∉ vs ∧ g'.env[j]? = some (some (.cell m c)) ∧ g.st[j]? = g'.st[j]? := fun {j m c} h => by
    rcases get h with ⟨h1, h2⟩ | h
    · exact absurd h2 (noCell_not nc h1)
    · exact h
  have hhas : ∀ a, Has { g' with st := g.st, env := restE g.env vs g'.env } a → Has g' a := fun a ⟨i, m, c, h1, h3⟩ => by
    obtain ⟨q1, q2, q3⟩ := cl h1
    exact ⟨i, m, c, q2, by rw [← q3]; exact h3⟩
  refine ⟨⟨⟨fun a o h n => s.ext.keep a o h fun z => n (own_wipe z), s.ext.tup, s.ext.frz, s.ext.dom, fun a h n => s.ext.av1 a h fun z => n (own_wipe z), s.ext.av2⟩, fun a h => ?_, fun a h => ?_, fun j c h => ?_, fun j c h => ?_⟩, ⟨?_, fun j x h => ?_, fun j m c h => ?_, fun i j m c m' c' a hi hj e1 e2 => ?_, ok'.dom⟩, hhas⟩
  · obtain ⟨i, m, c, h1, h2, h3⟩ := h
    obtain ⟨q1, q2, q3⟩ := cl h1
    rcases s.own a ⟨i, m, c, q2, h2, by rw [← q3]; exact h3⟩ with z | z
    · exact .inl (own_wipe z)
    · exact .inr z
  · rcases s.has a (hhas a h) with z | z
    · exact .inl (has_wipe z)
    · exact .inr z
  · have hj : j ∉ vs := fun z => noCell_not nc z h
    obtain ⟨_, c', y⟩ := s.bor j c (by show (wipeE g.env vs)[j]? = _; rw [wipeE_out hj]; exact h)
    exact ⟨rfl, c', by show (restE g.env vs g'.env)[j]? = _; rw [restE_out hj]; exact y⟩
  · have hj : j ∉ vs := fun z => noCell_not nc z h
    obtain ⟨_, y⟩ := s.lck j c (by show (wipeE g.env vs)[j]? = _; rw [wipeE_out hj]; exact h)
    exact ⟨rfl, by show (restE g.env vs g'.env)[j]? = _; rw [restE_out hj]; exact y⟩
  · show g.st.length = (restE g.env vs g'.env).length
    rw [restE_length, hl, ok.len]
  · rcases get h with ⟨h1, h2⟩ | ⟨h1, h2, h3⟩
    · obtain ⟨v, q1, q2⟩ := ok.dat j x h2
      exact ⟨v, q1, Dv.ext s.ext (fun a z => Own.sub ok a (own_wipe z)) x v q2⟩
    · obtain ⟨v, q1, q2⟩ := ok'.dat j x h2
      exact ⟨v, h3.trans q1, q2⟩
  · obtain ⟨h1, h2, h3⟩ := cl h
    obtain ⟨a, q1, q2⟩ := ok'.cel j m c h2
    exact ⟨a, h3.trans q1, q2⟩
  · obtain ⟨_, p2, p3⟩ := cl hi
    obtain ⟨_, q2, q3⟩ := cl hj
    exact ok'.dis i j m c m' c' a p2 q2 (p3.symm.trans e1) (q3.symm.trans e2)
theorem has_unlock1 {i : Nat} {a : Addr} (s : Stp { g with env := lock1 g.env i } g') (h : Has { g' with env := unlock1 g.env i g'.env } a) : Has g' a := by
  cases hi : g.env[i]? with
  | none => have e2 : unlock1 g.env i g'.env = g'.env := by unfold unlock1; rw [hi]
            rw [e2] at h; exact h
  | some o => cases o with
    | none => have e2 : unlock1 g.env i g'.env = g'.env := by unfold unlock1; rw [hi]
              rw [e2] at h; exact h
    | some mv => cases mv with
      | d x => have e2 : unlock1 g.env i g'.env = g'.env := by unfold unlock1; rw [hi]
               rw [e2] at h; exact h
      | cell m0 c0 =>
        have e1 : lock1 g.env i = g.env.set i (some (.cell .lock c0)) := by unfold lock1; rw [hi]
        have e2 : unlock1 g.env i g'.env = g'.env.set i (some (.cell m0 c0)) := by unfold unlock1; rw [hi]
        have hil : i < g.env.length := (List.getElem?_eq_some_iff.mp hi).1
        have hl1 : (lock1 g.env i)[i]? = some (some (.cell .lock c0)) := by rw [e1, List.getElem?_set_self hil]
        obtain ⟨z1, z2⟩ := s.lck i c0 hl1
        rw [e2] at h
        obtain ⟨k, m, c, y1, y2⟩ := h
        by_cases e : k = i
        · subst e; exact ⟨k, _, _, z2, y2⟩
        · have y1 : (g'.env.set i _)[k]? = _ := y1
          rw [List.getElem?_set_ne (Ne.symm e)] at y1
          exact ⟨k, m, c, y1, y2⟩
/-- a new list of ours that no slot holds is written -/
theorem bump {g0 : G} {D : Addr} {ws ws' : List V} (ok : g.Ok K) (hA : g.A D) (hn : ¬ Has g D) (hD : g.H D = some (.lst ws)) (h0 : g0.H D = none) (s : Stp g0 g) :
    Ext (fun b => b = D) g.A g.H g.A (upd g.H D (.lst ws')) ∧ Stp g0 { g with H := upd g.H D (.lst ws') } ∧ ({ g with H := upd g.H D (.lst ws') } : G).Ok K := by
  have e : Ext (fun b => b = D) g.A g.H g.A (upd g.H D (.lst ws')) :=
    ⟨fun b o h n => by rw [upd_ne n]; exact h, fun b o h => by rw [upd_ne (fun z => by rw [z, hD] at h; cases h)]; exact h, fun b o u h => by rw [upd_ne (fun z => by rw [z, hD] at h; cases h)]; exact h,
      fun b h => by by_cases z : b = D; (rw [z, upd_same]; simp); (rw [upd_ne z]; exact h), fun b h _ => h, fun b h => .inl h⟩
  have sub : ∀ b, b = D → g.A b := fun b z => by rw [z]; exact hA
  refine ⟨e, ⟨⟨fun b o h n => ?_, fun b o h => ?_, fun b o u h => ?_, fun b h => e.dom b (s.ext.dom b h), s.ext.av1, s.ext.av2⟩, s.own, s.has, s.bor, s.lck⟩, ⟨ok.len, fun j y hj => ?_, fun j m c hj => ?_, ok.dis, fun b hb => e.dom b (ok.dom b hb)⟩⟩
  · exact e.keep b o (s.ext.keep b o h n) fun z => by rw [z, h0] at h; cases h
  · exact e.tup b o (s.ext.tup b o h)
  · exact e.frz b o u (s.ext.frz b o u h)
  · obtain ⟨v, h1, h2⟩ := ok.dat j y hj
    exact ⟨v, h1, Dv.ext e sub y v h2⟩
  · obtain ⟨b, h1, h2, h3⟩ := ok.cel j m c hj
    refine ⟨b, h1, h2, ?_⟩
    cases c with
    | lst ys => obtain ⟨us, q, r⟩ := h3; exact ⟨us, e.keep _ _ q fun z => hn ⟨j, m, _, hj, by rw [← z]; exact h1⟩, Dvs.ext e sub ys us r⟩
    | _ => exact h3.elim
end
theorem has_unlock {K : PySem.W.Frag} : ∀ (lk : List Nat) {g g' : G} {a : Addr}, g.Ok K → g'.Ok K → Stp (lockG lk g) g' → Has { g' with env := unlockAll lk g.env g'.env } a → Has g' a
  | [], _, _, _, _, _, _, h => h
  | i :: q, g, g', a, ok, ok', s, h => by
    obtain ⟨s2, o2⟩ := unlock_all q (g := { g with env := lock1 g.env i }) (g' := g') (ok_lock1 ok) s ok'
    exact has_unlock q (g := { g with env := lock1 g.env i }) (ok_lock1 ok) ok' s (has_unlock1 (g := g) s2 h)
/-- the tests of a clause -/
structure FTs (X : Cx) (es : List Expr) (f : TF) : Prop where
  pts : ∀ W, Takes X W → PTs X es (tTt X W f)
def fYes : TF := fun env => .ok (true, env)
theorem fts_nil {X : Cx} : FTs X [] fYes := ⟨fun W tk => ⟨fun pins s σ H Q I hq => by
  obtain ⟨g, rfl, rfl, ok, o⟩ := hq
  exact pts_nil.run pins s g.st g.H Q I (o g rfl rfl (.refl g) ok)⟩⟩
theorem fts_one {X : Cx} {c : Expr} {f : TF} (h : FT X c f) : FTs X [c] f := ⟨fun W tk => pts_one (h.pt W tk)⟩
def cLoop (b : BF) (vs : List Nat) (tt : TF) (te : CF) : List PyData → SE → List PyData → Res (List PyData × SE)
  | [], env, acc => .ok (acc, env)
  | x :: xs, env, acc => if noCell env vs = true then match b x (wipeE env vs) with
    | none => .fail
    | some e1 => match tt e1 with
      | .ok (true, e2) => match te e2 with
        | .ok (y, e3) => if acc.length < lim then cLoop b vs tt te xs (restE env vs e3) (acc ++ [y]) else .fail
        | .exc _ _ _ => .fail
        | .fail => .fail
      | .ok (false, e2) => cLoop b vs tt te xs (restE env vs e2) acc
      | .exc _ _ _ => .fail
      | .fail => .fail
    else .fail
def fComp (fi : IF) (b : BF) (vs : List Nat) (tt : TF) (te : CF) : EF := fun env => (fi env).bind fun p => match cLoop b vs tt te p.1.1 (lockAll p.1.2 p.2) [] with
  | .ok (acc, e) => .ok (.tmp (.lst acc), unlockAll p.1.2 p.2 e)
  | .exc _ _ _ => .fail
  | .fail => .fail
theorem comp_core {X : Cx} {own : List (Str × Nat)} {fi : IF} {vb : List Nat} {b : BF} {tt : TF} {te : CF} (hsub : ∀ i ∈ vb, i ∈ own.map (·.2)) {W : WX} {g : G} {Q : VK} (ok : g.Ok X.K) (o : Out X W g (fComp fi b (own.map (·.2)) tt te g.env) fun g' rv => ∀ v, RVR X.K g.H g' rv v → Q v g'.H) :
    tLc (tIt X W fi) (tBd X vb b) (tTt X (fun _ _ _ _ => False) tt) (tCn X (fun _ _ _ _ => False) te) (own.map (·.2)) g.st g.H Q := by
  generalize own.map (·.2) = vs at *
  refine ⟨g, rfl, rfl, ok, o.bind0.imp fun g1 p st e o1 q J L hL hJ D hD => ?_⟩
  obtain ⟨ds, lk⟩ := p
  obtain ⟨S, s0, sx, sd, sj⟩ := hJ
  cases hr : cLoop b vs tt te ds (lockAll lk g1.env) [] with
  | exc c fs env' => rw [hr] at q; exact q.elim
  | fail => rw [hr] at q; exact q.elim
  | ok y =>
  obtain ⟨fin, envF⟩ := y
  rw [hr] at q
  simp only at q
  have oL : (lockG lk g1).Ok X.K := ok_lockAll lk o1
  obtain ⟨sB1, sB2, a0, ha0, hA0, hC0, hf0, hh0⟩ := alloc_lst (g := lockG lk g1) oL hD Dvs.nil
  cases ha0
  have hLD : ∀ a, L a → a ≠ D := fun a la z => sd _ _ s0 a la (by rw [z]; exact hD)
  have hne : ∀ {a o}, g1.H a = some o → a ≠ D := fun {a o} h z => by rw [z, hD] at h; cases h
  have sS : S (fun b => g1.A b ∨ b = D) (upd g1.H D (.lst [])) := sx (fun _ => False) _ _ _ _ s0 ⟨fun a o h _ => by rw [upd_ne (hne h)]; exact h, sB1.ext.tup, sB1.ext.frz, sB1.ext.dom, fun a h _ => .inl h, sB1.ext.av2⟩ (fun _ z => z.elim) (fun _ _ z => z)
  refine ⟨fun i m H => m = ds.length - i ∧ i ≤ ds.length ∧ ∃ (g2 : G) (acc : List PyData) (ws : List V), g2.st = g.st ∧ g2.H = H ∧ g2.Ok X.K ∧ Stp (lockG lk g1) g2 ∧ S g2.A g2.H ∧ g2.A D ∧ g2.H D = some (.lst ws) ∧ Dvs X.K g2.A g2.H acc ws ∧ ¬ Has g2 D ∧ cLoop b vs tt te (ds.drop i) g2.env acc = .ok (fin, envF),
    ⟨ds.length, rfl, Nat.zero_le _, _, [], [], ?_, ?_, sB2, sB1, sS, .inr rfl, upd_same, Dvs.nil, hh0, hr⟩, ?_⟩
  · exact e
  · rfl
  rintro i m H' ⟨rfl, hle, g2, acc, ws, k1, rfl, o2, s2, ss, hA, hH, hd, hh, oo⟩
  by_cases hlt : i < ds.length
  · obtain ⟨go, yl⟩ := (sj _ _ ss).1 i _ (List.getElem?_eq_getElem hlt)
    rw [List.drop_eq_getElem_cons hlt] at oo
    simp only [cLoop] at oo
    split at oo
    · rename_i nc
      refine .inr ⟨go, _, fun H' z => ⟨ds.length - (i + 1), by omega, z⟩, fun x H' hy => ?_⟩
      obtain ⟨ex, dv⟩ := yl x H' hy
      have s3 : Stp g2 { g2 with H := H' } := Stp.same ex
      have o3 : ({ g2 with H := H' } : G).Ok X.K := o2.ext (ex _) (fun _ h => h) (fun a h => (ex (fun _ => False)).dom a (o2.dom a h))
      have h3 : H' D = some (.lst ws) := (ex (fun _ => False)).keep D _ hH id
      cases hb1 : b ds[i] (wipeE g2.env vs) with
      | none => rw [hb1] at oo; cases oo
      | some env1 =>
        rw [hb1] at oo
        simp only at oo
        rw [← k1]
        have turn : ∀ g5 : G, Stp (wipeG vs { g2 with H := H' }) g5 → g5.Ok X.K → wipe g5.st vs = wipe g2.st vs → ({ g5 with st := g2.st, env := restE g2.env vs g5.env } : G).Ok X.K ∧ Stp (lockG lk g1) { g5 with st := g2.st, env := restE g2.env vs g5.env } ∧ S g5.A g5.H ∧ g5.A D ∧ g5.H D = some (.lst ws) ∧ Dvs X.K g5.A g5.H acc ws ∧ ¬ Has { g5 with st := g2.st, env := restE g2.env vs g5.env } D := fun g5 s5 o5 hw => by
          obtain ⟨r1, r2, r3⟩ := rest_step (g := { g2 with H := H' }) o3 nc s5 o5 hw
          have s25 := s3.trans o2 r1
          have nh : ¬ Has (wipeG vs { g2 with H := H' }) D := fun z => hh (has_wipe z)
          have no : ¬ Own (wipeG vs { g2 with H := H' }) D := fun ⟨i, m, c, q1, _, q2⟩ => nh ⟨i, m, c, q1, q2⟩
          refine ⟨r2, s2.trans oL s25, sx (Own g2) _ _ _ _ ss s25.ext (Own.sub o2) (fun a la ow => ?_), s5.ext.av1 D hA no, s5.ext.keep D _ h3 no, s25.dvs o2 hd, fun z => ?_⟩
          · rcases s2.own a ow with z | z
            · exact hL a la z
            · exact sd _ _ s0 a la z
          · rcases s5.has D (r3 D z) with y | y
            · exact nh y
            · exact absurd y (by show H' D ≠ none; rw [h3]; simp)
        refine ⟨wipeG vs { g2 with H := H' }, ds[i], env1, rfl, rfl, ok_wipe o3, dv, hb1, fun g4 e4 a4 f4 s4 o4 h4 => ?_⟩
        have hw : wipe g4.st vs = wipe g2.st vs := wipe_same (by rw [f4.1]; exact wipe_length _ _) fun j hj => by
          rw [(f4.2.2 j fun z => hj (hsub j z)).1]
          exact wipe_out hj
        refine ⟨hw, g4, rfl, rfl, o4, ?_⟩
        rw [e4]
        cases ht : tt env1 with
        | exc c fs env' => rw [ht] at oo; cases oo
        | fail => rw [ht] at oo; cases oo
        | ok y =>
          obtain ⟨bb, e2⟩ := y
          rw [ht] at oo
          intro g5 e5 q5 s5 o5
          cases bb with
          | false =>
            simp only at oo
            obtain ⟨t1, t2, t3, t4, t5, t6, t7⟩ := turn g5 (s4.trans (ok_wipe o3) s5) o5 (by rw [q5]; exact hw)
            exact ⟨rfl, hlt, { g5 with st := g2.st, env := restE g2.env vs g5.env }, acc, ws, rfl, rfl, t1, t2, t3, t4, t5, t6, t7, by show cLoop b vs tt te _ (restE g2.env vs g5.env) _ = _; rw [e5]; exact oo⟩
          | true =>
            simp only at oo
            refine ⟨g5, q5, rfl, o5, ?_⟩
            rw [e5]
            cases hte : te e2 with
            | exc c fs env' => rw [hte] at oo; cases oo
            | fail => rw [hte] at oo; cases oo
            | ok y =>
              obtain ⟨y, e3⟩ := y
              rw [hte] at oo
              simp only at oo
              intro g6 e6 q6 s6 o6 v dv6
              obtain ⟨t1, t2, t3, t4, t5, t6, t7⟩ := turn g6 ((s4.trans (ok_wipe o3) s5).trans (ok_wipe o3) s6) o6 (by rw [q6, q5]; exact hw)
              split at oo
              · rename_i hlen
                obtain ⟨b1, b2, b3⟩ := bump (g0 := lockG lk g1) (g := { g6 with st := g2.st, env := restE g2.env vs g6.env }) (ws' := ws ++ [v]) t1 t4 t7 t5 hD t2
                have sub : ∀ b, b = D → g6.A b := fun b z => by rw [z]; exact t4
                refine ⟨ws, t5, by rw [← t6.length, ← lim_line]; exact hlen, rfl, hlt, { g6 with st := g2.st, env := restE g2.env vs g6.env, H := upd g6.H D (.lst (ws ++ [v])) }, acc ++ [y], ws ++ [v], rfl, rfl, b3, b2, sx (fun b => b = D) _ _ _ _ t3 b1 sub (fun a la z => hLD a la z), t4, upd_same, ?_, t7, ?_⟩
                · exact Dvs.append (Dvs.ext b1 sub _ _ t6) (Dvs.one (Dv.ext b1 sub _ _ dv6))
                · show cLoop b vs tt te _ (restE g2.env vs g6.env) _ = _
                  rw [e6]; exact oo
              · cases oo
    · cases oo
  · have hi : i = ds.length := by omega
    subst hi
    refine .inl ⟨(sj _ _ ss).2, ?_⟩
    simp only [List.drop_length, cLoop, Res.ok.injEq, Prod.mk.injEq] at oo
    obtain ⟨rfl, rfl⟩ := oo
    obtain ⟨s3, o3⟩ := unlock_all lk o1 s2 o2
    exact q { g2 with env := unlockAll lk g1.env g2.env } rfl k1 (st.trans ok s3) o3 (.ref D) ⟨D, rfl, hA, ⟨ws, hH, hd⟩, none_of_dom st.ext.dom hD, fun z => hh (has_unlock lk o1 o2 s2 z)⟩
theorem fe_comp {X : Cx} {elt tg iter : Expr} {ifs : List Expr} {scope : Scope} {own : List (Str × Nat)} {pos : Pos} {fi : IF} {vb : List Nat} {b : BF} {tt : TF} {te : CF} (hc : X.calm = true) (hN : X.N.Nodup) (hi : FI X tg iter fi) (ok : BlkOk X.N X.env.scope scope own)
    (hg : ∀ (s : Shared) (H : Hp) (C : Addr) (cl : List (Str × Addr)) (fp : List Addr), FG (X.blk s H scope (compEnvC scope cl C X.env) fp) tg vb b) (ht : ∀ (s : Shared) (H : Hp) (C : Addr) (cl : List (Str × Addr)) (fp : List Addr), FTs (X.blk s H scope (compEnvC scope cl C X.env) fp) ifs tt)
    (he : ∀ (s : Shared) (H : Hp) (C : Addr) (cl : List (Str × Addr)) (fp : List Addr), FC (X.blk s H scope (compEnvC scope cl C X.env) fp) elt te) (hsub : ∀ i ∈ vb, i ∈ own.map (·.2) := by decide)
    (hs : ∀ x, foldedSetIterable iter X.env x = pure x := by first | exact fun _ => rfl | assumption) : FE X (.ListComp elt [⟨tg, iter, ifs, 0⟩] scope pos) (fComp fi b (own.map (·.2)) tt te) := by
  refine ⟨fun W tk => ⟨fun pins s σ H Q I hq => ?_⟩⟩
  obtain ⟨g, rfl, rfl, o1, o⟩ := hq
  refine (pe_lc (X := X) (wi := tIt X W fi) (g := tBd X vb b) (tt := tTt X (fun _ _ _ _ => False) tt) (te := tCn X (fun _ _ _ _ => False) te) hc hN (hi.pi W tk) ok (fun s H C cl fp => (hg s H C cl fp).pg) (fun s H C cl fp => (ht s H C cl fp).pts _ takes0) (fun s H C cl fp => (he s H C cl fp).pe _ takes0) hs).run pins s g.st g.H Q I ?_
  exact comp_core hsub o1 o
end BH

set_option maxRecDepth 100000
set_option maxHeartbeats 2000000
namespace BH
open PySem PySem.Spec PyProof.Rows L2

/-! ### further stores -/
def fBind (b : BF) (f : CF) : SF := fun env => (f env).bind fun p => match b p.1 p.2 with
  | some env' => .ok (.nx, env')
  | none => .fail
theorem fs_bind {X : Cx} {tg e : Expr} {f : CF} {vs : List Nat} {b : BF} {pos : Pos} (h : FC X e f) (hg : FG X tg vs b) (hs : swapsWithSole [tg] e pos.line X.env = pure false := by rfl) (hw : swappedStores [tg] e X.env = pure none := by rfl)
    (h1 : (assignEach [tg] X.env).map (·.2) = [assign tg X.env] := by rfl) : FS X (.Assign [tg] e pos) (fBind b f) := by
  refine ⟨fun W tk hp => ⟨fun pins s σ H D I hq => ?_⟩⟩
  obtain ⟨g, rfl, rfl, ok, o⟩ := hq
  refine (ps_asg (h.pe W tk) hg.pg hs hw h1).run pins s g.st g.H D I ⟨g, rfl, rfl, ok, (OutS.bindE o).imp fun g1 x st e o1 p v dv => ?_⟩
  cases hb : b x g1.env with
  | none => rw [hb] at p; exact p.elim
  | some env' =>
    rw [hb] at p
    exact ⟨g1, x, env', e, rfl, o1, dv, hb, fun g2 e2 _ _ s2 o2 _ => p g2 e2 (st.trans ok s2) o2⟩
/-- an own list in slot j is changed -/
def pokeE (env : SE) (j : Nat) (f : List PyData → Option (List PyData)) : Option SE := match env[j]? with
  | some (some (.cell .own (.lst xs))) => (f xs).map fun ys => env.set j (some (.cell .own (.lst ys)))
  | some (some (.cell .bor (.lst xs))) => (f xs).map fun ys => env.set j (some (.cell .bor (.lst ys)))
  | _ => none
theorem poke_of {K : PySem.W.Frag} {g : G} {j : Nat} {f : List PyData → Option (List PyData)} {env' : SE} {v : V} (ok : g.Ok K) (hv : g.st[j]? = some (some v)) (h : pokeE g.env j f = some env') :
    ∃ (m : Mode) (a : Addr) (xs ys : List PyData) (vs : List V), v = .ref a ∧ m ≠ .lock ∧ g.env[j]? = some (some (.cell m (.lst xs))) ∧ f xs = some ys ∧ g.H a = some (.lst vs) ∧ Dvs K g.A g.H xs vs ∧ env' = g.env.set j (some (.cell m (.lst ys))) := by
  unfold pokeE at h
  split at h
  · rename_i xs hj
    cases hf : f xs with
    | none => rw [hf] at h; cases h
    | some ys =>
      rw [hf] at h; cases h
      obtain ⟨a, q1, q2, vs, q3, q4⟩ := ok.cel j _ _ hj
      rw [hv] at q1; cases q1
      exact ⟨.own, a, xs, ys, vs, rfl, by simp, hj, hf, q3, q4, rfl⟩
  · rename_i xs hj
    cases hf : f xs with
    | none => rw [hf] at h; cases h
    | some ys =>
      rw [hf] at h; cases h
      obtain ⟨a, q1, q2, vs, q3, q4⟩ := ok.cel j _ _ hj
      rw [hv] at q1; cases q1
      exact ⟨.bor, a, xs, ys, vs, rfl, by simp, hj, hf, q3, q4, rfl⟩
  · cases h
def fSetIx (fo : EF) (fi fv : CF) : SF := fun env => (fv env).bind fun p => (fo p.2).bind fun q => (fi q.2).bind fun r => match q.1, r.1 with
  | .slot j, .int k => match pokeE r.2 j fun xs => (ixN xs.length k).map fun n => xs.set n p.1 with
    | some env' => .ok (.nx, env')
    | none => .fail
  | _, _ => .fail
theorem fs_setIx {X : Cx} {o i e : Expr} {fo : EF} {fi fv : CF} {pos pos' : Pos} (hv : FC X e fv) (ho : FE X o fo) (hi : FC X i fi) (hs : swapsWithSole [.Subscript o i pos'] e pos.line X.env = pure false := by rfl) (hw : swappedStores [.Subscript o i pos'] e X.env = pure none := by rfl)
    (h1 : (assignEach [.Subscript o i pos'] X.env).map (·.2) = [assign (.Subscript o i pos') X.env] := by rfl)
    (ha : ∀ v, assign (.Subscript o i pos') X.env v = (do
      let ov ← holding [v] (eval o X.env)
      let iv ← holding [v, ov] (eval i X.env)
      standAt pos'
      holding [v, ov, iv] (setItem ov iv v)
      release [v, ov, iv] []) := by intro _; rfl) : FS X (.Assign [.Subscript o i pos'] e pos) (fSetIx fo fi fv) := by
  refine ⟨fun W tk hp => ⟨fun pins s σ H D I hq => ?_⟩⟩
  obtain ⟨g, rfl, rfl, ok, oo⟩ := hq
  refine (ps_asg (hv.pe W tk) (pg_sub (ho.pe W tk) (hi.pe W tk) set_list ha) hs hw h1).run pins s g.st g.H D I ⟨g, rfl, rfl, ok, (OutS.bindE oo).imp fun g1 x st e o1 p v dv => ?_⟩
  refine ⟨g1, e, rfl, o1, (OutS.bindE (OutS.rebase ok st p)).imp fun g2 rv st2 e2 o2 p2 w rr => ?_⟩
  refine ⟨g2, e2.trans e, rfl, o2, (OutS.bindE (OutS.rebase o1 st2 p2)).imp fun g3 y st3 e3 o3 p3 z dz => ?_⟩
  have dv3 := (st2.trans o1 st3).dv o1 dv
  have rr3 := rr.step o2 st3 e3
  split at p3
  · rename_i j k hq hk
    change rv = .slot j at hq
    change y = .int k at hk
    subst hq hk
    have hst : g3.st[j]? = some (some w) := rr3
    cases hp3 : pokeE g3.env j fun xs => (ixN xs.length k).map fun n => xs.set n x with
    | none => rw [hp3] at p3; exact p3.elim
    | some env' =>
      rw [hp3] at p3
      simp only at p3
      obtain ⟨m, a, xs, ys, vs, rfl, hm, hj, hf, hH, hd, he⟩ := poke_of o3 hst hp3
      cases hn : ixN xs.length k with
      | none => rw [hn] at hf; cases hf
      | some n =>
        rw [hn] at hf; cases hf
        simp only [Dv] at dz
        have dz := dz
        obtain ⟨s4, o4⟩ := poke (ws := vs.set n v) o3 hj hm hst hH (Dvs.set dv3 n hd)
        rw [← he] at s4 o4
        have e4 : g3.st = g.st := e3.trans (e2.trans e)
        refine ⟨a, vs, k, n, rfl, dz, hH, by rw [← hd.length]; exact hn, ?_⟩
        have := p3 _ rfl (st3.trans o2 s4) o4
        rw [← e4]
        exact this
  · exact p3.elim

/-! ### zip -/
def zipD (ds es : List PyData) : List PyData := List.zipWith (fun a b => .tuple [a, b]) ds es
theorem zip_ok {K : PySem.W.Frag} {J : It} {ds es : List PyData} {A : AS} {H : Hp} (S1 S2 : Hp → List V → Prop) (vs ws : List V) (k1 : ∀ O A H A' H', Dvs K A H ds vs → S1 H vs → Ext O A H A' H' → (∀ a, O a → A a) → (S1 H' vs ∧ Dvs K A' H' ds vs))
    (k2 : ∀ O A H A' H', Dvs K A H es ws → S2 H ws → Ext O A H A' H' → (∀ a, O a → A a) → (S2 H' ws ∧ Dvs K A' H' es ws)) (h1 : S1 H vs ∧ Dvs K A H ds vs) (h2 : S2 H ws ∧ Dvs K A H es ws)
    (hgo : ∀ H i x y, S1 H vs → S2 H ws → vs[i]? = some x → ws[i]? = some y → J.go i H)
    (hy : ∀ H i v H', S1 H vs → S2 H ws → J.yld i H v H' → ∃ T x y, v = .ref T ∧ H T = none ∧ H' = upd H T (.tup [x, y]) ∧ vs[i]? = some x ∧ ws[i]? = some y)
    (hst : ∀ H i, S1 H vs → S2 H ws → (vs.length ≤ i ∨ ws.length ≤ i) → J.stop i H) : ItOk K (fun _ => False) J (zipD ds es) A H := by
  refine ⟨fun A H => (S1 H vs ∧ Dvs K A H ds vs) ∧ S2 H ws ∧ Dvs K A H es ws, ⟨h1, h2⟩, fun O A H A' H' ⟨⟨a1, a2⟩, b1, b2⟩ e hO _ => ⟨k1 O A H A' H' a2 a1 e hO, k2 O A H A' H' b2 b1 e hO⟩, fun _ _ _ _ z => z.elim, fun A H ⟨⟨a1, a2⟩, b1, b2⟩ => ⟨fun i x0 e => ?_, ?_⟩⟩
  · unfold zipD at e
    rw [List.getElem?_zipWith] at e
    cases hd : ds[i]? with
    | none => rw [hd] at e; cases e
    | some d =>
      cases he : es[i]? with
      | none => rw [hd, he] at e; cases e
      | some d' =>
        rw [hd, he] at e; cases e
        obtain ⟨v, e1, e2⟩ := a2.getD hd
        obtain ⟨w, f1, f2⟩ := b2.getD he
        refine ⟨hgo H i v w a1 b1 e1 f1, fun x H' y => ?_⟩
        obtain ⟨T, x1, y1, rfl, hT, rfl, q1, q2⟩ := hy H i x H' a1 b1 y
        rw [e1] at q1; cases q1
        rw [f1] at q2; cases q2
        have ex : ∀ O, Ext O A H A (upd H T (.tup [v, w])) := fun O => alloc_ext hT
        refine ⟨ex, ?_⟩
        simp only [Dv]
        exact ⟨T, [v, w], rfl, .of upd_same, Dvs.cons (Dv.ext (ex (fun _ => False)) (fun _ z => z.elim) _ _ e2) (Dvs.one (Dv.ext (ex (fun _ => False)) (fun _ z => z.elim) _ _ f2))⟩
  · refine hst H _ a1 b1 ?_
    unfold zipD
    rw [List.length_zipWith, ← a2.length, ← b2.length]
    omega
theorem lsd_keep {K : PySem.W.Frag} {a : Addr} {vs : List V} {O A A' : AS} {H H' : Hp} (h : LsD K A H a vs) (e : Ext O A H A' H') (hO : ∀ a, O a → A a) : LsD K A' H' a vs := by
  rcases h with ⟨n, q⟩ | q
  · refine .inl ⟨fun z => ?_, e.rd hO (fun z => n (hO a z)) q⟩
    rcases e.av2 a z with y | y
    · exact n y
    · exact rd_some q y
  · exact .inr q
def fZip (f : CFs) : IF := fun env => (f env).bind fun p => match p.1 with
  | [.list ds, .list es] => .ok ((zipD ds es, []), p.2)
  | [.tuple ds, .tuple es] => .ok ((zipD ds es, []), p.2)
  | _ => .fail
theorem fi_zip {X : Cx} {a b : Expr} {f : CFs} {p pos tpos : Pos} {elts : List Expr} {kk : Nat} (hg : Gl X "zip") (hm : X.mg "zip" = none) (ha : FCs X [a, b] f)
    (hs : starEach [a, b] X.env = (false, eval a X.env) :: starEach [b] X.env := by rfl) (hpl : (backTo pos (starEach [b] X.env)).any (·.1) = false := by rfl) : FI X (.Tuple elts kk tpos) (.Call (.Name "zip" p) [a, b] [] pos) (fZip f) := by
  refine ⟨fun W tk => ⟨fun pins s σ H R I hq => ?_⟩⟩
  obtain ⟨g, rfl, rfl, ok, o⟩ := hq
  refine (RZ.pi_zipA hg hm (ha.pa W tk) hs hpl).run pins s g.st g.H R I ⟨g, rfl, rfl, ok, o.bind0.imp fun g1 xs st e o1 q vs dv => ?_⟩
  split at q
  · rename_i ds es hx
    change xs = _ at hx
    subst hx
    simp only [Dvs, Dv] at dv
    obtain ⟨_, _, rfl, ⟨a, us, rfl, la, da⟩, _, _, rfl, ⟨b, ws, rfl, lb, db⟩, rfl⟩ := dv
    refine ⟨a, b, us, ws, rfl, .inl ⟨la.sq, lb.sq, ?_⟩⟩
    refine q g1 rfl e st o1 _ (fun _ => False) (fun _ z => z.elim) ?_
    refine ⟨fun A H => (LsD X.K A H a us ∧ Dvs X.K A H ds us) ∧ LsD X.K A H b ws ∧ Dvs X.K A H es ws, ⟨⟨la, da⟩, lb, db⟩, fun O A H A' H' ⟨⟨a1, a2⟩, b1, b2⟩ e hO _ => ⟨⟨lsd_keep a1 e hO, Dvs.ext e hO _ _ a2⟩, lsd_keep b1 e hO, Dvs.ext e hO _ _ b2⟩, fun _ _ _ _ z => z.elim, fun A H ⟨⟨a1, a2⟩, b1, b2⟩ => ⟨fun i x0 e => ?_, ?_⟩⟩
    · unfold zipD at e
      rw [List.getElem?_zipWith] at e
      cases hd : ds[i]? with
      | none => rw [hd] at e; cases e
      | some d =>
        cases he : es[i]? with
        | none => rw [hd, he] at e; cases e
        | some d' =>
          rw [hd, he] at e; cases e
          obtain ⟨v, e1, e2⟩ := a2.getD hd
          obtain ⟨w, f1, f2⟩ := b2.getD he
          refine ⟨⟨us, ws, v, w, a1.sq, b1.sq, e1, f1⟩, fun x H' y => ?_⟩
          obtain ⟨T, x1, y1, rfl, hT, rfl, q1, q2⟩ := y
          have q1 := q1 us a1.sq
          have q2 := q2 ws b1.sq
          rw [e1] at q1; cases q1
          rw [f1] at q2; cases q2
          have ex : ∀ O, Ext O A H A (upd H T (.tup [v, w])) := fun O => alloc_ext hT
          refine ⟨ex, ?_⟩
          simp only [Dv]
          exact ⟨T, [v, w], rfl, .of upd_same, Dvs.cons (Dv.ext (ex (fun _ => False)) (fun _ z => z.elim) _ _ e2) (Dvs.one (Dv.ext (ex (fun _ => False)) (fun _ z => z.elim) _ _ f2))⟩
    · refine ⟨us, ws, a1.sq, b1.sq, ?_⟩
      unfold zipD
      rw [List.length_zipWith, ← a2.length, ← b2.length]
      omega
  · rename_i ds es hx
    change xs = _ at hx
    subst hx
    simp only [Dvs, Dv] at dv
    obtain ⟨_, _, rfl, ⟨a, us, rfl, la, da⟩, _, _, rfl, ⟨b, ws, rfl, lb, db⟩, rfl⟩ := dv
    refine ⟨a, b, us, ws, rfl, .inr ⟨la, lb, ?_⟩⟩
    refine q g1 rfl e st o1 _ (fun _ => False) (fun _ z => z.elim) ?_
    refine zip_ok (fun H vs => SqT X.K H a vs) (fun H ws => SqT X.K H b ws) us ws (fun O A H A' H' d s e hO => ⟨sqt_ext e.tup e.frz s, Dvs.ext e hO _ _ d⟩) (fun O A H A' H' d s e hO => ⟨sqt_ext e.tup e.frz s, Dvs.ext e hO _ _ d⟩) ⟨la, da⟩ ⟨lb, db⟩
      (fun H i x y s1 s2 e1 e2 => ⟨us, ws, x, y, s1, s2, e1, e2⟩) (fun H i v H' s1 s2 y => ?_) (fun H i s1 s2 z => ⟨us, ws, s1, s2, z⟩)
    obtain ⟨T, x, y, h1, h2, h3, h4, h5⟩ := y
    exact ⟨T, x, y, h1, h2, h3, h4 us s1, h5 ws s2⟩
  · exact q.elim
end BH

set_option maxRecDepth 100000
set_option maxHeartbeats 2000000
namespace BH
open PySem PySem.Spec PyProof.Rows L2

/-! ### repr -/
def opRepr : List PyData → Option RV
  | [.list xs] => if (PyData.list xs).showable = true ∧ (PyData.list xs).hasDict = false ∧ (PyData.list xs).depth ≤ 60 ∧ (PyData.list xs).shown.length ≤ lim then some (.d (.str (PyData.list xs).shown)) else none
  | [.tuple xs] => if (PyData.tuple xs).showable = true ∧ (PyData.tuple xs).hasDict = false ∧ (PyData.tuple xs).depth ≤ 60 ∧ (PyData.tuple xs).shown.length ≤ lim then some (.d (.str (PyData.tuple xs).shown)) else none
  | [.int i] => if i.natAbs.log2 < 1920 then some (.d (.str (PyData.int i).shown)) else none
  | _ => none
theorem cd_repr {X : Cx} (hg : X.A.guards = some []) (hu : X.A.units + 65 < cLine) : CallD X (.builtin "repr") opRepr := by
  intro g pins s xs vs us r ok I hx rv e
  have core : ∀ (d : PyData) (a : Addr) (u : Value), Dw X.K g.A g.H d (.ref a) → RelV (.ref a) u → d.showable = true ∧ d.hasDict = false ∧ d.depth ≤ 60 ∧ d.shown.length ≤ lim → wpAny (model X.prog X.w) X.A (call (.builtin "repr") [u]) (OpQ X pins g (.d (.str d.shown))) X.xe s := by
    rintro d a u hd ru ⟨q1, q2, q3, q4⟩
    cases ru
    obtain ⟨as, rd⟩ := hd.reads I (show RelV (.ref a) (.ref a) from rfl)
    refine PySem.repr_of_reads' rd q1 (PyData.noDict_hsm q2) hg (by omega) (fun _ _ e => e) (fun h' u tk hk => ?_) (by rw [← lim_line]; exact q4)
    exact ⟨.str d.shown, g, rfl, rfl, I.kept (t' := tk) hk, ⟨u, rfl⟩, .refl g, ok, by show Dv _ _ _ _ _; simp only [Dv]⟩
  unfold opRepr at e
  split at e
  · split at e
    · rename_i h
      cases e
      obtain ⟨v, rfl, hd⟩ := dws1 hx
      obtain ⟨a, ws, rfl, q⟩ := dw_lst hd
      cases rv with
      | cons r1 r2 => cases r2; exact core _ a _ hd r1 h
    · cases e
  · split at e
    · rename_i h
      cases e
      obtain ⟨v, rfl, hd⟩ := dws1 hx
      obtain ⟨a, ws, rfl, q⟩ := dw_tup hd
      cases rv with
      | cons r1 r2 => cases r2; exact core _ a _ hd r1 h
    · cases e
  · rename_i i
    split at e
    · rename_i h
      cases e
      obtain ⟨v, rfl, hd⟩ := dws1 hx
      obtain rfl := dw_int hd
      cases rv with
      | cons r1 r2 =>
        cases r2
        obtain ⟨t, rfl⟩ := r1
        refine PySem.P.repr_of_int h ?_
        exact ⟨.str (PyData.int i).shown, g, rfl, rfl, I.kept (t' := s.toks + 1) fun _ _ e => e, ⟨s.toks, by simp only [PyData.shown]⟩, .refl g, ok, by show Dv _ _ _ _ _; simp only [Dv]⟩
    · cases e
  · cases e

/-! ### isinstance -/
def fIsa (op : PyData → Bool) (f : EF) : EF := fun env => (f env).bind fun p => match p.1.view p.2 with
  | some x => .ok (.d (.bool (op x)), p.2)
  | none => .fail
/-- the library's rule for the class T -/
def IsaRule (X : Cx) (T : String) (op : PyData → Bool) : Prop :=
  ∀ {s : Shared} {v : Value} {d : PyData} {as : List Addr} {Q : Value → Shared → Prop}, Reads s.heap v d as → (∀ tk, s.toks ≤ tk → Q (.bool (op d)) { s with toks := tk }) → wpAny (model X.prog X.w) X.A (call (.builtin "isinstance") [v, .type T]) Q X.xe s
theorem isa_int {X : Cx} : IsaRule X "int" PyData.isInt := fun r h => PySem.W.isinstance_int_data r h
theorem isa_bool {X : Cx} : IsaRule X "bool" PyData.isBool := fun r h => PySem.W.isinstance_bool_data r h
theorem isa_tuple {X : Cx} : IsaRule X "tuple" PyData.isTuple := fun r h => PySem.W.isinstance_tuple_data r h
theorem isa_list {X : Cx} : IsaRule X "list" PyData.isList := fun r h => PySem.W.isinstance_list_data r h
theorem isa_str {X : Cx} : IsaRule X "str" PyData.isStr := fun r h => PySem.W.isinstance_str_data r h
theorem isa_dict {X : Cx} : IsaRule X "dict" PyData.isDict := fun r h => PySem.W.isinstance_dict_data r h
theorem fe_isa {X : Cx} {T : String} {n : Str} {op : PyData → Bool} {e : Expr} {f : EF} {p pn pos : Pos} (hr : IsaRule X T op) (hg : Gl X "isinstance") (hm : X.mg "isinstance" = none) (hg2 : Gl X n) (hm2 : X.mg n = none) (hv2 : bootBuiltins n = some (.type T)) (h : FE X e f)
    (hn2 : n ≠ "__name__" := by decide) (hd2 : (n == ("__debug__" : Str)) = false := by decide)
    (he : starEach [e, .Name n pn] X.env = (false, eval e X.env) :: starEach [.Name n pn] X.env := by rfl) (hpl : (backTo pos (starEach [.Name n pn] X.env)).any (·.1) = false := by rfl)
    (he2 : starEach [.Name n pn] X.env = [(false, eval (.Name n pn) X.env)] := by rfl) : FE X (.Call (.Name "isinstance" p) [e, .Name n pn] [] pos) (fIsa op f) :=
  fe_mk fun W tk g pins s P ok I o => by
    refine wpAny_Call_Name_kw (ld_blt I hg hm (show bootBuiltins ("isinstance" : Str) = some (.builtin "isinstance") from rfl) ?_)
    refine PyProof.Rows.callWith_builtin1 ?_ he hpl
    rw [he, he2]
    show wpAny _ _ (spliced ((false, eval e X.env) :: backTo pos [(false, eval (.Name n pn) X.env)])) _ _ s
    refine Calls.spliced_cons (h.go tk ok I o.bind0 fun u s1 g1 rv v e1 I1 r o1 st rr p => ?_)
    refine Calls.spliced_cons ((pe_bltn (X := X) (v := .ty T) (pos := pn) hg2 hm2 hv2 rfl hn2 hd2).run pins s1 g1.st g1.H (fun v' H' => v' = .ty T ∧ H' = g1.H) I1 ⟨rfl, rfl⟩ |> fun q => thn q fun u2 s2 ⟨v2, H2, I2, r2, z1, z2⟩ => ?_)
    subst z1 z2
    cases r2
    refine Calls.spliced_nil ?_
    cases hx : rv.view g1.env with
    | none => rw [hx] at p; exact p.elim
    | some x =>
      rw [hx] at p
      obtain ⟨as, rd⟩ := (rr.dw o1 hx).reads I2 r
      refine hr rd fun tk' _ => ?_
      refine ⟨.bl (op x), g1, .d (.bool (op x)), ?_, rfl, by show Dv _ _ _ _ _; simp only [Dv], p g1 rfl e1 st o1⟩
      rw [← e1]
      exact I2.kept (t' := tk') fun _ _ e => e
end BH

set_option maxRecDepth 100000
set_option maxHeartbeats 2000000
namespace BH
open PySem PySem.Spec PyProof.Rows L2

/-! ### a def's promise, where no guard is on the stack -/
structure FnG (P : Program) (w : World) (K : PySem.W.Frag) (mg : Str → Option Value) (base : Heap) (k : Nat) (f : Addr) (fd : FuncData) (ps : List Str) (sp : Sp) : Prop where
  len : ∀ vs H Q E, sp vs H Q E → vs.length = ps.length
  go : ∀ (A : Around) (outer : List Env) (s : Shared) (H : Hp) (args : Args) (us : List Value) (vs : List V) (Q : VK) (E : XK), Room k A → A.guards = some [] → Env0 P w K mg base A outer s H → BindsTo s fd args (ps.zip us) → Vals vs us → sp vs H Q E →
    codeAny (model P w) A (.call (.ref f) args) (CR (L2.CX P w) outer P w H s Q E) s
theorem FnG.mono {P : Program} {w : World} {K : PySem.W.Frag} {mg : Str → Option Value} {base : Heap} {j k : Nat} {f : Addr} {fd : FuncData} {ps : List Str} {sp : Sp} (F : FnG P w K mg base j f fd ps sp) (h : j ≤ k) : FnG P w K mg base k f fd ps sp :=
  ⟨F.len, fun A o s H args us vs Q E hr hg => F.go A o s H args us vs Q E (hr.mono h) hg⟩
theorem fn_g {P : Program} {w : World} {K : PySem.W.Frag} {mg : Str → Option Value} {base : Heap} {x qual : Str} {st : Stmt} {f : Addr} {fd : FuncData} {N ps : List Str} {k : Nat} {sp : Sp} (F : Fun K x qual st f fd) (S : FnScope N ps (defScope st)) (len : ∀ vs H Q E, sp vs H Q E → vs.length = ps.length)
    (hbody : ∀ (cdv : Value) (A : Around) (outer : List Env) (s : Shared) (H : Hp) (vs : List V) (Q : VK) (E : XK), Room k (A.deeper (envOfC qual (defScope st) s.heap.objs.size f cdv)) → (A.deeper (envOfC qual (defScope st) s.heap.objs.size f cdv)).guards = some [] → sp vs H Q E →
      ∃ t, PSs (cxOf (L2.CX P w) P w K mg base N qual (defScope st) f cdv A outer s H E) (defBody st) t ∧ t { nx := fun _ H' => Q .non H', rt := Q } (L2.start N vs) H) : FnG P w K mg base (k + 1) f fd ps sp := by
  obtain ⟨oc, od, kV, doc, pm, an, cdv, ct, osl, rfl, lk, hcd⟩ := F.ex
  refine ⟨len, fun A outer s H args us vs Q E hr hg e0 hb r hsp => ?_⟩
  have hl := len _ _ _ _ hsp
  have inS : K.In s.heap := e0.mod.kin.keeps fun b o e => (e0.bs b o e).1
  have noL : s.heap.NoLimit := e0.mod.nolimit.keeps fun b o e => (e0.bs b o e).1
  have kinds : ∀ y ∈ ps.zip us, (defScope st).names.lookup y.1 = some .local ∨ ((defScope st).names.lookup y.1 = some .cell ∧ ((cellsFrom (s.heap.objs.size + 1) (defScope st).names []).lookup y.1).isSome = true) := by
    rintro ⟨n, v⟩ hy
    refine (S.par n (List.of_mem_zip hy).1).imp id fun q => ⟨q, ?_⟩
    exact PySem.W.cellsFrom_some _ _ _ (.inl q)
  refine codeAny_call_function hr.depth (inS _ _ lk) rfl S.co S.gen rfl (PySem.W.codeRec_of inS hcd) (hb _ _ _ _ ?_)
  refine wpAny_newFunctionEnv_cells S.kind kinds fun env he s1 ic => ?_
  subst he
  refine ⟨noL.keeps ic.toInCall.keep, codeAny_func ?_⟩
  obtain ⟨t, ht, hq⟩ := hbody cdv A outer s H vs Q E (hr.deeper _) hg hsp
  refine wpAny_mono (ht.run [] s1 (L2.start N vs) H _ (inv_start S hr.hd e0 hl r ic) hq) (fun fl s' hs => ?_) fun e s' hs => hs
  have done : ∀ {σ' : L2.St} {H' : Hp} {v : V} {u : Value}, Inv (cxOf (L2.CX P w) P w K mg base N qual (defScope st) f cdv A outer s H E) [] σ' H' s' → RelV v u → Q v H' → CE outer P w H s Q u s' :=
    fun {σ' H' v u} J rv q => ⟨v, H', J.os, J.bare, J.base, J.hok, rv, q⟩
  cases fl with
  | ret u => obtain ⟨v, σ', H', J, rv, q⟩ := hs; exact done J rv q
  | next => obtain ⟨σ', H', J, q⟩ := hs; exact done (v := V.non) (u := Value.none) J rfl q
  | brk => exact hs.elim fun _ z => z.elim fun _ z => z.2.elim
  | cont => exact hs.elim fun _ z => z.elim fun _ z => z.2.elim
theorem run_g {X : Cx} {k : Nat} {f : Addr} {fd : FuncData} {ps : List Str} {sp : Sp} {E : XK} {pins : List (Addr × Obj)} {σ : L2.St} {H : Hp} {s : Shared} {Q : VK} {us : List Value} {vs : List V} (F : FnG X.prog X.w X.K X.mg X.base k f fd ps sp) (hr : Room k X.A) (hg : X.A.guards = some []) (hb : Binds X.K fd ps [])
    (hx : PassesAt (L2.CX X.prog X.w) X σ E) (I : Inv X pins σ H s) (r : Vals vs us) (h : sp vs H Q E) : wpAny (model X.prog X.w) X.A (call (.ref f) us) (EP X pins σ Q) X.xe s := by
  have hl : us.length = ps.length := by rw [← r.length]; exact F.len _ _ _ _ h
  have b := hb s us I.kIn (by rw [List.append_nil]; exact hl)
  rw [List.append_nil] at b
  refine wpAny_call (codeAny_mono (F.go X.A X.stack s H ⟨us, []⟩ us vs Q E hr hg I.env0 b r h) fun res s' hq => ?_)
  match res, hq with
  | .error e, hq => exact hx pins H s e s' I hq
  | .ok (.ret u), hq => exact I.after hq

/-! ### promises about data -/
inductive Arg where
  | d (x : PyData)
  | bor (c : Cell)
inductive FRes where
  | ok (r : Ret) (outs : List Arg)
  | exc (c : String) (fs : List (String × PyData)) (outs : List Arg)
  | fail
def ArgR (K : PySem.W.Frag) (A : AS) (H : Hp) : Arg → V → Prop
  | .d x, v => Dv K A H x v
  | .bor c, v => ∃ a, v = .ref a ∧ A a ∧ CellR K A H c a
def ArgsR (K : PySem.W.Frag) (A : AS) (H : Hp) : List Arg → List V → Prop
  | [], vs => vs = []
  | a :: as, vs => ∃ v t, vs = v :: t ∧ ArgR K A H a v ∧ ArgsR K A H as t
def BorL : List Arg → List V → AS
  | .bor _ :: as, v :: vs, a => v = .ref a ∨ BorL as vs a
  | .d _ :: as, _ :: vs, a => BorL as vs a
  | _, _, _ => False
def DisL : List Arg → List V → Prop
  | .bor _ :: as, v :: vs => (∀ a, v = .ref a → ¬ BorL as vs a) ∧ DisL as vs
  | .d _ :: as, _ :: vs => DisL as vs
  | _, _ => True
def OutsL (K : PySem.W.Frag) (A : AS) (H : Hp) : List Arg → List Arg → List V → Prop
  | [], _, _ => True
  | .bor _ :: as, .bor c' :: os, v :: vs => (∃ a, v = .ref a ∧ A a ∧ CellR K A H c' a) ∧ OutsL K A H as os vs
  | .d _ :: as, _ :: os, _ :: vs => OutsL K A H as os vs
  | _, _, _ => False
def RetC (K : PySem.W.Frag) (H0 : Hp) (A : AS) (H : Hp) : Ret → V → Prop
  | .d x, v => Dv K A H x v
  | .tmp c, v => ∃ a, v = .ref a ∧ A a ∧ CellR K A H c a ∧ H0 a = none
def ExcC (mg : Str → Option Value) (K : PySem.W.Frag) (A : AS) (H : Hp) (c : String) (fs : List (String × PyData)) (cls : Value) (d : Option Addr) : Prop :=
  ∃ C, cls = .ref C ∧ mg (Str.ofString c) = some (.ref C) ∧
    ((fs = [] ∧ d = none) ∨ ∃ dd vs, d = some dd ∧ H dd = some (.xd vs) ∧ fs.length = vs.length ∧
      ∀ (i : Nat) n x, fs[i]? = some (n, x) → ∃ v, vs[i]? = some (Str.ofString n, v) ∧ Dv K A H x v)
def FPost (mg : Str → Option Value) (K : PySem.W.Frag) (A : AS) (H : Hp) (as : List Arg) (vs : List V) (Q : VK) (E : XK) : FRes → Prop
  | .ok r outs => ∀ (A' : AS) (H' : Hp) v, Ext (BorL as vs) A H A' H' → (∀ a, A' a → H' a ≠ none) → OutsL K A' H' as outs vs → RetC K H A' H' r v → Q v H'
  | .exc c fs outs => ∀ (A' : AS) (H' : Hp) cls d, Ext (BorL as vs) A H A' H' → (∀ a, A' a → H' a ≠ none) → OutsL K A' H' as outs vs → ExcC mg K A' H' c fs cls d → E cls d H'
  | .fail => False
def spF (mg : Str → Option Value) (K : PySem.W.Frag) (n : Nat) (F : List Arg → FRes) : Sp := fun vs H Q E => ∃ (A : AS) (as : List Arg), as.length = n ∧ ArgsR K A H as vs ∧ DisL as vs ∧ (∀ a, A a → H a ≠ none) ∧ FPost mg K A H as vs Q E (F as)
def Arg.mv : Arg → Option MV
  | .d x => some (.d x)
  | .bor c => some (.cell .bor c)
def envOf (n : Nat) (as : List Arg) : SE := as.map Arg.mv ++ List.replicate (n - as.length) none
def outsOf : List Arg → SE → List Arg
  | [], _ => []
  | .d x :: as, e => .d x :: outsOf as e.tail
  | .bor c :: as, e => (match e with
    | some (.cell _ c') :: _ => .bor c'
    | _ => .bor c) :: outsOf as e.tail
def fnF (n : Nat) (f : SF) (as : List Arg) : FRes := match f (envOf n as) with
  | .ok (.nx, e) => .ok (.d .none) (outsOf as e)
  | .ok (.rt r, e) => .ok r (outsOf as e)
  | .exc c fs e => .exc c fs (outsOf as e)
  | _ => .fail
section
variable {K : PySem.W.Frag} {A : AS} {H : Hp}
theorem ArgsR.len : ∀ {as : List Arg} {vs : List V}, ArgsR K A H as vs → vs.length = as.length
  | [], _, h => by cases h; rfl
  | _ :: as, _, ⟨v, t, e, _, h⟩ => by rw [e, List.length_cons, List.length_cons, h.len]
theorem ArgsR.get : ∀ {as : List Arg} {vs : List V} {i : Nat} {a : Arg}, ArgsR K A H as vs → as[i]? = some a → ∃ v, vs[i]? = some v ∧ ArgR K A H a v
  | [], _, _, _, _, e => by simp at e
  | _ :: _, _, 0, _, ⟨v, t, rfl, h, _⟩, e => by simp at e; subst e; exact ⟨v, rfl, h⟩
  | _ :: as, _, i + 1, _, ⟨v, t, rfl, _, h⟩, e => by simpa using h.get (by simpa using e)
theorem borL_get : ∀ {as : List Arg} {vs : List V} {i : Nat} {c : Cell} {a : Addr}, as[i]? = some (.bor c) → vs[i]? = some (.ref a) → BorL as vs a
  | [], _, _, _, _, e, _ => by simp at e
  | _ :: _, [], _, _, _, _, e => by simp at e
  | x :: as, v :: vs, 0, c, a, e, e2 => by simp at e e2; subst e e2; exact .inl rfl
  | x :: as, v :: vs, i + 1, c, a, e, e2 => by
    have := borL_get (as := as) (vs := vs) (i := i) (by simpa using e) (by simpa using e2)
    cases x with
    | d y => exact this
    | bor y => exact .inr this
theorem disL_get : ∀ {as : List Arg} {vs : List V} {i j : Nat} {c c' : Cell} {a : Addr}, DisL as vs → as[i]? = some (.bor c) → as[j]? = some (.bor c') → vs[i]? = some (.ref a) → vs[j]? = some (.ref a) → i = j
  | [], _, _, _, _, _, _, _, e, _, _, _ => by simp at e
  | _ :: _, [], _, _, _, _, _, _, _, _, e, _ => by simp at e
  | x :: as, v :: vs, 0, 0, _, _, _, _, _, _, _, _ => rfl
  | x :: as, v :: vs, 0, j + 1, c, c', a, d, e1, e2, e3, e4 => by
    simp at e1 e3; subst e1 e3
    exact absurd (borL_get (i := j) (by simpa using e2) (by simpa using e4)) (d.1 a rfl)
  | x :: as, v :: vs, i + 1, 0, c, c', a, d, e1, e2, e3, e4 => by
    simp at e2 e4; subst e2 e4
    exact absurd (borL_get (i := i) (by simpa using e1) (by simpa using e3)) (d.1 a rfl)
  | x :: as, v :: vs, i + 1, j + 1, c, c', a, d, e1, e2, e3, e4 => by
    have d' : DisL as vs := by cases x with
      | d y => exact d
      | bor y => exact d.2
    rw [disL_get (i := i) (j := j) d' (by simpa using e1) (by simpa using e2) (by simpa using e3) (by simpa using e4)]
theorem outs_spec : ∀ {as : List Arg} {vs : List V} {e : SE}, vs.length = as.length → (∀ (i : Nat) c, as[i]? = some (.bor c) → ∃ a c', vs[i]? = some (.ref a) ∧ e[i]? = some (some (.cell .bor c')) ∧ A a ∧ CellR K A H c' a) → OutsL K A H as (outsOf as e) vs
  | [], _, _, _, _ => trivial
  | _ :: _, [], _, h, _ => by simp at h
  | .d x :: as, v :: vs, e, hl, h => by
    show OutsL K A H as (outsOf as e.tail) vs
    refine outs_spec (by simpa using hl) fun i c hc => ?_
    obtain ⟨a, c', h1, h2, h3⟩ := h (i + 1) c (by simpa using hc)
    exact ⟨a, c', by simpa using h1, by rw [List.getElem?_tail]; exact h2, h3⟩
  | .bor c0 :: as, v :: vs, e, hl, h => by
    obtain ⟨a, c', h1, h2, h3, h4⟩ := h 0 c0 rfl
    have ih : OutsL K A H as (outsOf as e.tail) vs := outs_spec (by simpa using hl) fun i c hc => by
      obtain ⟨a, c', h1, h2, h3⟩ := h (i + 1) c (by simpa using hc)
      exact ⟨a, c', by simpa using h1, by rw [List.getElem?_tail]; exact h2, h3⟩
    cases e with
    | nil => simp at h2
    | cons o r =>
      simp at h1 h2
      subst h2
      exact ⟨⟨a, h1, h3, h4⟩, ih⟩
end
theorem envOf_get {n : Nat} {as : List Arg} {i : Nat} {mv : MV} (h : (envOf n as)[i]? = some (some mv)) : ∃ a, as[i]? = some a ∧ a.mv = some mv := by
  unfold envOf at h
  by_cases hi : i < as.length
  · rw [List.getElem?_append_left (by simpa using hi), List.getElem?_map] at h
    cases e : as[i]? with
    | none => rw [e] at h; cases h
    | some a => rw [e] at h; simp at h; exact ⟨a, rfl, h⟩
  · rw [List.getElem?_append_right (by simpa using hi), List.getElem?_replicate] at h
    split at h <;> cases h
theorem start_get {N : List Str} {vs : List V} {i : Nat} {v : V} (h : vs[i]? = some v) : (L2.start N vs)[i]? = some (some v) := by
  have hi := (List.getElem?_eq_some_iff.mp h).1
  unfold L2.start
  rw [List.getElem?_append_left (by simpa using hi), List.getElem?_map, h]; rfl
theorem start_of {N : List Str} {vs : List V} {i : Nat} {v : V} (h : (L2.start N vs)[i]? = some (some v)) : vs[i]? = some v := by
  unfold L2.start at h
  by_cases hi : i < vs.length
  · rw [List.getElem?_append_left (by simpa using hi), List.getElem?_map] at h
    cases e : vs[i]? with
    | none => rw [e] at h; cases h
    | some a => rw [e] at h; simp at h; rw [h]
  · rw [List.getElem?_append_right (by simpa using hi), List.getElem?_replicate] at h
    split at h <;> cases h
/-- the body of a def, at its entry -/
theorem entry {X : Cx} {W : WX} {N : List Str} {as : List Arg} {vs : List V} {A : AS} {H : Hp} {Q : VK} {E : XK} {f : SF} (hle : as.length ≤ N.length) (ha : ArgsR X.K A H as vs) (hd : DisL as vs) (hdom : ∀ a, A a → H a ≠ none) (hW : W = fun cls d _ H => E cls d H) (hp : FPost X.mg X.K A H as vs Q E (fnF N.length f as)) :
    tS X W f { nx := fun _ H' => Q .non H', rt := Q } (L2.start N vs) H := by
  have hl := ha.len
  have ok : ({ A := A, H := H, st := L2.start N vs, env := envOf N.length as } : G).Ok X.K := by
    refine ⟨?_, fun i x h => ?_, fun i m c h => ?_, fun i j m c m' c' a h1 h2 h3 h4 => ?_, hdom⟩
    · show (L2.start N vs).length = (envOf N.length as).length
      unfold L2.start envOf
      simp [hl]
    · obtain ⟨a, h1, h2⟩ := envOf_get h
      obtain ⟨v, q1, q2⟩ := ha.get h1
      cases a with
      | d y => cases h2; exact ⟨v, start_get q1, q2⟩
      | bor c => cases h2
    · obtain ⟨a, h1, h2⟩ := envOf_get h
      obtain ⟨v, q1, q2⟩ := ha.get h1
      cases a with
      | d y => cases h2
      | bor c => cases h2; obtain ⟨b, rfl, q3, q4⟩ := q2; exact ⟨b, start_get q1, q3, q4⟩
    · obtain ⟨a1, q1, q2⟩ := envOf_get h1
      obtain ⟨a2, q3, q4⟩ := envOf_get h2
      cases a1 with
      | d y => cases q2
      | bor c => cases a2 with
        | d y => cases q4
        | bor c2 => exact disL_get hd q1 q3 (start_of h3) (start_of h4)
  refine ⟨{ A := A, H := H, st := L2.start N vs, env := envOf N.length as }, rfl, rfl, ok, ?_⟩
  have own : ∀ {a}, Own { A := A, H := H, st := L2.start N vs, env := envOf N.length as } a → ∃ (i : Nat) (c : Cell), (envOf N.length as)[i]? = some (some (.cell .bor c)) ∧ (L2.start N vs)[i]? = some (some (.ref a)) ∧ BorL as vs a := fun {a} ⟨i, m, c, h1, h2, h3⟩ => by
    obtain ⟨a1, q1, q2⟩ := envOf_get h1
    cases a1 with
    | d y => cases q2
    | bor c => cases q2; exact ⟨i, _, h1, h3, borL_get q1 (start_of h3)⟩
  have ext : ∀ {g' : G}, Stp { A := A, H := H, st := L2.start N vs, env := envOf N.length as } g' → Ext (BorL as vs) A H g'.A g'.H := fun {g'} s =>
    ⟨fun a o h n => s.ext.keep a o h fun z => n (own z).choose_spec.choose_spec.2.2, s.ext.tup, s.ext.frz, s.ext.dom, fun a h n => s.ext.av1 a h fun z => n (own z).choose_spec.choose_spec.2.2, s.ext.av2⟩
  have outs : ∀ {g' : G}, Stp { A := A, H := H, st := L2.start N vs, env := envOf N.length as } g' → g'.Ok X.K → OutsL X.K g'.A g'.H as (outsOf as g'.env) vs := fun {g'} s o => outs_spec hl fun i c hc => by
    obtain ⟨v, q1, a, rfl, q2, q3⟩ := ha.get hc
    have he : (envOf N.length as)[i]? = some (some (.cell .bor c)) := by
      unfold envOf
      rw [List.getElem?_append_left (by simpa using (List.getElem?_eq_some_iff.mp hc).1), List.getElem?_map, hc]; rfl
    obtain ⟨e1, c', e2⟩ := s.bor i c he
    obtain ⟨b, z1, z2, z3⟩ := o.cel i _ _ e2
    have e1 := e1.symm.trans z1
    have e3 := start_get (N := N) q1
    rw [e3] at e1; cases e1
    exact ⟨a, c', q1, e2, z2, z3⟩
  unfold fnF at hp
  show OutS X W _ (f (envOf N.length as)) _
  cases hf : f (envOf N.length as) with
  | ok y =>
    obtain ⟨x, env'⟩ := y
    rw [hf] at hp
    cases x with
    | nx => exact fun g' e s o => hp g'.A g'.H .non (ext s) o.dom (by rw [← e]; exact outs s o) (by show Dv _ _ _ _ _; simp only [Dv])
    | bk => exact hp.elim
    | ct => exact hp.elim
    | rt r =>
      refine fun g' v e s o rr => hp g'.A g'.H v (ext s) o.dom (by rw [← e]; exact outs s o) ?_
      cases r with
      | d x => exact rr
      | tmp c =>
        obtain ⟨a, h1, h2, h3, h4⟩ := rr
        refine ⟨a, h1, h2, h3, ?_⟩
        rcases h4 with h4 | ⟨h4, h5⟩
        · exact h4
        · rcases s.own a h4 with z | z
          · obtain ⟨i, c', z1, z2, z3⟩ := own z
            obtain ⟨y1, c2, y2⟩ := s.bor i c' z1
            exact absurd ⟨i, c2, y2, y1.trans z2⟩ h5
          · exact z
  | exc c fs env' =>
    rw [hf] at hp
    refine fun g' cls d e s o x => ?_
    rw [hW]
    exact hp g'.A g'.H cls d (ext s) o.dom (by rw [← e]; exact outs s o) x
  | fail => rw [hf] at hp; exact hp.elim
/-- THE RULE for a def -/
theorem fn_data {P : Program} {w : World} {K : PySem.W.Frag} {mg : Str → Option Value} {base : Heap} {x qual : Str} {st : Stmt} {f : Addr} {fd : FuncData} {N ps : List Str} {k : Nat} {fS : SF} (F : Fun K x qual st f fd) (S : FnScope N ps (defScope st))
    (hb : ∀ (cdv : Value) (A : Around) (outer : List Env) (s : Shared) (H : Hp) (E : XK), Room k (A.deeper (envOfC qual (defScope st) s.heap.objs.size f cdv)) → (A.deeper (envOfC qual (defScope st) s.heap.objs.size f cdv)).guards = some [] →
      FSs (cxOf (L2.CX P w) P w K mg base N qual (defScope st) f cdv A outer s H E) (defBody st) fS) : FnG P w K mg base (k + 1) f fd ps (spF mg K ps.length (fnF N.length fS)) := by
  refine fn_g F S (fun vs H Q E h => ?_) fun cdv A outer s H vs Q E hr hg h => ?_
  · obtain ⟨A, as, h1, h2, _⟩ := h
    rw [h2.len, h1]
  · obtain ⟨A0, as, h1, h2, h3, h4, h5⟩ := h
    have hpl : ps.length ≤ N.length := by have := congrArg List.length S.pre; rw [List.length_take] at this; omega
    exact ⟨_, (hb cdv A outer s H E hr hg).pss (fun cls d _ H => E cls d H) (takes_of rfl rfl rfl rfl) (passes_of rfl), entry (by rw [h1]; exact hpl) h2 h3 h4 rfl h5⟩
end BH

set_option maxRecDepth 100000
set_option maxHeartbeats 2000000
namespace BH
open PySem PySem.Spec PyProof.Rows L2

/-! ### a call of a def -/
inductive AV where
  | d (x : PyData)
  | ref (i : Nat)
abbrev AF := SE → Res (List AV × SE)
def AVR (K : PySem.W.Frag) (g : G) : AV → V → Prop
  | .d x, v => Dv K g.A g.H x v
  | .ref i, v => g.st[i]? = some (some v)
def AVsR (K : PySem.W.Frag) (g : G) : List AV → List V → Prop
  | [], vs => vs = []
  | a :: as, vs => ∃ v t, vs = v :: t ∧ AVR K g a v ∧ AVsR K g as t
def tAs (X : Cx) (W : WX) (f : AF) : TA := fun σ H Q => ∃ g : G, g.st = σ ∧ g.H = H ∧ g.Ok X.K ∧ Out X W g (f g.env) fun g' as => ∀ vs, AVsR X.K g' as vs → Q vs g'.H
structure FAs (X : Cx) (es : List Expr) (f : AF) : Prop where
  pa : ∀ W, Takes X W → PA X es (tAs X W f)
def aNil : AF := fun env => .ok ([], env)
def aDat (f : CF) (t : AF) : AF := fun env => (f env).bind fun p => (t p.2).bind fun q => .ok (.d p.1 :: q.1, q.2)
def aRef (i : Nat) (t : AF) : AF := fun env => match env[i]? with
  | some (some (.cell _ _)) => (t env).bind fun q => .ok (.ref i :: q.1, q.2)
  | _ => .fail
theorem FAs.go {X : Cx} {es : List Expr} {f : AF} (h : FAs X es f) {W : WX} (tk : Takes X W) {g : G} (ok : g.Ok X.K) {pos : Pos} {pins : List (Addr × Obj)} {s : Shared} (I : Inv X pins g.st g.H s) {P : G → List AV → Prop} (o : Out X W g (f g.env) P)
    {Q : List Value → Shared → Prop} (hQ : ∀ u s' g' x v, g'.st = g.st → Inv X pins g'.st g'.H s' → Vals v u → g'.Ok X.K → Stp g g' → AVsR X.K g' x v → P g' x → Q u s') :
    wpAny (model X.prog X.w) X.A (spliced (backTo pos (starEach es X.env))) Q X.xe s := by
  refine thn ((h.pa W tk).run pos pins s g.st g.H (fun v H' => ∃ g' x, g'.H = H' ∧ g'.st = g.st ∧ g'.Ok X.K ∧ Stp g g' ∧ AVsR X.K g' x v ∧ P g' x) I ⟨g, rfl, rfl, ok, o.imp fun g' x st e o p v r => ⟨g', x, rfl, e, o, st, r, p⟩⟩) ?_
  rintro u s' ⟨v, H', I', r, g', x, rfl, e, o', st, rr, p⟩
  exact hQ u s' g' x v e (e ▸ I') r o' st rr p
theorem fas_nil {X : Cx} : FAs X [] aNil := ⟨fun W tk => ⟨fun pos pins s σ H Q I hq => by
  obtain ⟨g, rfl, rfl, ok, o⟩ := hq
  exact pa_nil.run pos pins s g.st g.H Q I (o g rfl rfl (.refl g) ok [] rfl)⟩⟩
theorem fas_dat {X : Cx} {e : Expr} {es : List Expr} {f : CF} {t : AF} (h : FC X e f) (ht : FAs X es t) (hs : starEach (e :: es) X.env = (false, eval e X.env) :: starEach es X.env := by rfl) : FAs X (e :: es) (aDat f t) := by
  refine ⟨fun W tk => ⟨fun pos pins s σ H Q I hq => ?_⟩⟩
  obtain ⟨g, rfl, rfl, ok, o⟩ := hq
  rw [hs]
  show wpAny _ _ (spliced ((false, eval e X.env) :: backTo pos (starEach es X.env))) _ _ s
  refine Calls.spliced_cons (h.go tk ok I o.bind0 fun u s1 g1 x v e1 I1 r o1 st dv p => ?_)
  refine ht.go tk o1 I1 (p.rebase ok st e1).bind0 fun us s2 g2 xs vs e2 I2 r2 o2 st2 rr2 p2 => ?_
  exact ⟨v :: vs, g2.H, by rw [← e1, ← e2]; exact I2, .cons r r2, p2 g2 rfl e2 st2 o2 _ ⟨v, vs, rfl, st2.dv o1 dv, rr2⟩⟩
theorem fas_ref {X : Cx} {e : Expr} {es : List Expr} {i : Nat} {t : AF} (h : PE X e (tVar i)) (ht : FAs X es t) (hs : starEach (e :: es) X.env = (false, eval e X.env) :: starEach es X.env := by rfl) : FAs X (e :: es) (aRef i t) := by
  refine ⟨fun W tk => ⟨fun pos pins s σ H Q I hq => ?_⟩⟩
  obtain ⟨g, rfl, rfl, ok, o⟩ := hq
  rw [hs]
  show wpAny _ _ (spliced ((false, eval e X.env) :: backTo pos (starEach es X.env))) _ _ s
  unfold aRef at o
  split at o
  · rename_i m c hi
    obtain ⟨a, q1, _⟩ := ok.cel i m c hi
    refine Calls.spliced_cons (thn (h.run pins s g.st g.H (fun v H' => v = .ref a ∧ H' = g.H) I ⟨_, q1, rfl, rfl⟩) fun u s1 ⟨v, H1, I1, r, e1, e2⟩ => ?_)
    subst e1 e2
    refine ht.go tk ok I1 o.bind0 fun us s2 g2 xs vs e2 I2 r2 o2 st2 rr2 p2 => ?_
    exact ⟨.ref a :: vs, g2.H, by rw [← e2]; exact I2, .cons r r2, p2 g2 rfl e2 st2 o2 _ ⟨.ref a, vs, rfl, by show g2.st[i]? = _; rw [e2]; exact q1, rr2⟩⟩
  · exact o.elim
def refsOf : List AV → List Nat
  | [] => []
  | .d _ :: r => refsOf r
  | .ref i :: r => i :: refsOf r
def toArgs : List AV → SE → Option (List Arg)
  | [], _ => some []
  | .d x :: r, e => (toArgs r e).map fun t => .d x :: t
  | .ref i :: r, e => match e[i]? with
    | some (some (.cell .own c)) => (toArgs r e).map fun t => .bor c :: t
    | some (some (.cell .bor c)) => (toArgs r e).map fun t => .bor c :: t
    | _ => none
def putOut (e : SE) (i : Nat) (c : Cell) : SE := match e[i]? with
  | some (some (.cell m _)) => e.set i (some (.cell m c))
  | _ => e
def putOuts : List AV → List Arg → SE → SE
  | .ref i :: r, .bor c :: o, e => putOuts r o (putOut e i c)
  | .d _ :: r, _ :: o, e => putOuts r o e
  | _, _, e => e
def Ret.rv : Ret → RV
  | .d x => .d x
  | .tmp c => .tmp c
def fCallF (n : Nat) (F : List Arg → FRes) (fa : AF) : EF := fun env => (fa env).bind fun p => if (refsOf p.1).Nodup then match toArgs p.1 p.2 with
    | some as => if as.length = n then match F as with
      | .ok r outs => .ok (r.rv, putOuts p.1 outs p.2)
      | .exc c fs outs => .exc c fs (putOuts p.1 outs p.2)
      | .fail => .fail
      else .fail
    | none => .fail
  else .fail
section
variable {K : PySem.W.Frag} {g : G}
theorem args_spec (ok : g.Ok K) : ∀ {avs : List AV} {as : List Arg} {vs : List V}, AVsR K g avs vs → toArgs avs g.env = some as → ArgsR K g.A g.H as vs ∧ ∀ a, BorL as vs a → ∃ i ∈ refsOf avs, g.st[i]? = some (some (.ref a)) ∧ ∃ m c, g.env[i]? = some (some (.cell m c)) ∧ m ≠ .lock
  | [], as, vs, h, e => by
    cases e; cases h
    exact ⟨rfl, fun a z => z.elim⟩
  | .d x :: r, as, vs, ⟨v, t, e1, h1, h2⟩, e => by
    simp only [toArgs] at e
    cases he : toArgs r g.env with
    | none => rw [he] at e; cases e
    | some as' =>
      rw [he] at e; cases e
      obtain ⟨q1, q2⟩ := args_spec ok h2 he
      subst e1
      exact ⟨⟨v, t, rfl, h1, q1⟩, fun a z => q2 a z⟩
  | .ref i :: r, as, vs, ⟨v, t, e1, h1, h2⟩, e => by
    have h1 : g.st[i]? = some (some v) := h1
    have core : ∀ m c, g.env[i]? = some (some (.cell m c)) → m ≠ .lock → (toArgs r g.env).map (fun t => Arg.bor c :: t) = some as → ArgsR K g.A g.H as vs ∧ ∀ a, BorL as vs a → ∃ j ∈ refsOf (AV.ref i :: r), g.st[j]? = some (some (.ref a)) ∧ ∃ m c, g.env[j]? = some (some (.cell m c)) ∧ m ≠ .lock := fun m c hi hm e => by
      cases he : toArgs r g.env with
      | none => rw [he] at e; cases e
      | some as' =>
        rw [he] at e; cases e
        obtain ⟨q1, q2⟩ := args_spec ok h2 he
        obtain ⟨a, y1, y2, y3⟩ := ok.cel i m c hi
        rw [h1] at y1; cases y1
        subst e1
        refine ⟨⟨_, t, rfl, ⟨a, rfl, y2, y3⟩, q1⟩, fun b z => ?_⟩
        rcases z with z | z
        · cases z; exact ⟨i, by simp [refsOf], h1, m, c, hi, hm⟩
        · obtain ⟨j, z1, z2⟩ := q2 b z
          exact ⟨j, by simp [refsOf, z1], z2⟩
    simp only [toArgs] at e
    split at e
    · rename_i c hi; exact core _ c hi (by simp) e
    · rename_i c hi; exact core _ c hi (by simp) e
    · cases e
theorem dis_spec (ok : g.Ok K) : ∀ {avs : List AV} {as : List Arg} {vs : List V}, AVsR K g avs vs → toArgs avs g.env = some as → (refsOf avs).Nodup → DisL as vs
  | [], as, vs, h, e, _ => by cases e; cases h; trivial
  | .d x :: r, as, vs, ⟨v, t, e1, h1, h2⟩, e, nd => by
    simp only [toArgs] at e
    cases he : toArgs r g.env with
    | none => rw [he] at e; cases e
    | some as' =>
      rw [he] at e; cases e; subst e1
      have ih : DisL as' t := dis_spec (avs := r) ok h2 he nd
      exact ih
  | .ref i :: r, as, vs, ⟨v, t, e1, h1, h2⟩, e, nd => by
    have h1 : g.st[i]? = some (some v) := h1
    have nd : (i :: refsOf r).Nodup := nd
    have core : ∀ m c, g.env[i]? = some (some (.cell m c)) → (toArgs r g.env).map (fun t => Arg.bor c :: t) = some as → DisL as vs := fun m c hi e => by
      cases he : toArgs r g.env with
      | none => rw [he] at e; cases e
      | some as' =>
        rw [he] at e; cases e
        subst e1
        refine ⟨fun a ea z => ?_, dis_spec ok h2 he (List.nodup_cons.mp nd).2⟩
        obtain ⟨j, z1, z2, m', c', z3, _⟩ := (args_spec ok h2 he).2 a z
        subst ea
        have := ok.dis i j _ _ _ _ a hi z3 h1 z2
        subst this
        exact (List.nodup_cons.mp nd).1 z1
    simp only [toArgs] at e
    split at e
    · rename_i c hi; exact core _ c hi e
    · rename_i c hi; exact core _ c hi e
    · cases e
theorem putOut_len {e : SE} {i : Nat} {c : Cell} : (putOut e i c).length = e.length := by unfold putOut; split <;> simp
theorem putOut_ne {e : SE} {i j : Nat} {c : Cell} (h : j ≠ i) : (putOut e i c)[j]? = e[j]? := by
  unfold putOut; split
  · exact List.getElem?_set_ne (Ne.symm h)
  · rfl
theorem put_spec {A' : AS} {H' : Hp} (ok : g.Ok K) : ∀ {avs : List AV} {as outs : List Arg} {vs : List V} {env : SE}, AVsR K g avs vs → toArgs avs g.env = some as → (refsOf avs).Nodup → OutsL K A' H' as outs vs → (∀ i ∈ refsOf avs, env[i]? = g.env[i]?) →
    (putOuts avs outs env).length = env.length ∧ (∀ j, j ∉ refsOf avs → (putOuts avs outs env)[j]? = env[j]?) ∧
      ∀ j ∈ refsOf avs, ∃ m c c' a, g.env[j]? = some (some (.cell m c)) ∧ m ≠ .lock ∧ (putOuts avs outs env)[j]? = some (some (.cell m c')) ∧ g.st[j]? = some (some (.ref a)) ∧ A' a ∧ CellR K A' H' c' a ∧ BorL as vs a
  | [], as, outs, vs, env, h, e, nd, o, hs => by
    refine ⟨?_, fun j _ => ?_, fun j hj => by cases hj⟩ <;> (unfold putOuts; rfl)
  | .d x :: r, as, outs, vs, env, ⟨v, t, e1, h1, h2⟩, e, nd, o, hs => by
    simp only [toArgs] at e
    cases he : toArgs r g.env with
    | none => rw [he] at e; cases e
    | some as' =>
      rw [he] at e; cases e
      subst e1
      cases outs with
      | nil => exact o.elim
      | cons o1 os =>
        have o' : OutsL K A' H' as' os t := o
        have ih := put_spec (avs := r) (env := env) ok h2 he nd o' hs
        exact ih
  | .ref i :: r, as, outs, vs, env, ⟨v, t, e1, h1, h2⟩, e, nd, o, hs => by
    have h1 : g.st[i]? = some (some v) := h1
    have nd : (i :: refsOf r).Nodup := nd
    have hs0 : env[i]? = g.env[i]? := hs i (by simp [refsOf])
    have core : ∀ m c, g.env[i]? = some (some (.cell m c)) → m ≠ .lock → (toArgs r g.env).map (fun t => Arg.bor c :: t) = some as → (putOuts (.ref i :: r) outs env).length = env.length ∧ (∀ j, j ∉ refsOf (AV.ref i :: r) → (putOuts (.ref i :: r) outs env)[j]? = env[j]?) ∧
      ∀ j ∈ refsOf (AV.ref i :: r), ∃ m c c' a, g.env[j]? = some (some (.cell m c)) ∧ m ≠ .lock ∧ (putOuts (.ref i :: r) outs env)[j]? = some (some (.cell m c')) ∧ g.st[j]? = some (some (.ref a)) ∧ A' a ∧ CellR K A' H' c' a ∧ BorL as vs a := fun m c hi hm e => by
      cases he : toArgs r g.env with
      | none => rw [he] at e; cases e
      | some as' =>
        rw [he] at e; cases e
        subst e1
        cases outs with
        | nil => exact o.elim
        | cons o1 os =>
          cases o1 with
          | d y => exact o.elim
          | bor c1 =>
            obtain ⟨⟨a, rfl, p1, p2⟩, o'⟩ := (o : (∃ a, v = .ref a ∧ A' a ∧ CellR K A' H' c1 a) ∧ OutsL K A' H' as' os t)
            have hp : (putOut env i c1)[i]? = some (some (.cell m c1)) := by
              unfold putOut
              rw [hs0, hi]
              exact List.getElem?_set_self (by rw [hi] at hs0; exact (List.getElem?_eq_some_iff.mp hs0).1)
            obtain ⟨q1, q2, q3⟩ := put_spec (env := putOut env i c1) ok h2 he (List.nodup_cons.mp nd).2 o' fun j hj => by
              have hji : j ≠ i := fun z => (List.nodup_cons.mp nd).1 (by rw [← z]; exact hj)
              rw [putOut_ne hji]
              exact hs j (by simp [refsOf, hj])
            refine ⟨q1.trans putOut_len, fun j hj => ?_, fun j hj => ?_⟩
            · simp only [refsOf, List.mem_cons, not_or] at hj
              exact (q2 j hj.2).trans (putOut_ne hj.1)
            · by_cases z : j = i
              · subst z
                exact ⟨m, c, c1, a, hi, hm, (q2 j (List.nodup_cons.mp nd).1).trans hp, h1, p1, p2, .inl rfl⟩
              · have hj' : j ∈ refsOf r := by
                  simp only [refsOf, List.mem_cons] at hj
                  exact hj.resolve_left z
                obtain ⟨m', c2, c3, b, y1, y2, y3, y4, y5, y6, y7⟩ := q3 j hj'
                exact ⟨m', c2, c3, b, y1, y2, y3, y4, y5, y6, .inr y7⟩
    simp only [toArgs] at e
    split at e
    · rename_i c hi; exact core _ c hi (by simp) e
    · rename_i c hi; exact core _ c hi (by simp) e
    · cases e
/-- the state behind a call -/
theorem behind {A' : AS} {H' : Hp} {avs : List AV} {as outs : List Arg} {vs : List V} (ok : g.Ok K) (h : AVsR K g avs vs) (e : toArgs avs g.env = some as) (nd : (refsOf avs).Nodup) (x : Ext (BorL as vs) g.A g.H A' H') (hd : ∀ a, A' a → H' a ≠ none) (o : OutsL K A' H' as outs vs) :
    Stp g { A := A', H := H', st := g.st, env := putOuts avs outs g.env } ∧ ({ A := A', H := H', st := g.st, env := putOuts avs outs g.env } : G).Ok K := by
  obtain ⟨p1, p2, p3⟩ := put_spec (env := g.env) ok h e nd o fun _ _ => rfl
  have bo : ∀ a, BorL as vs a → Own g a := fun a z => by
    obtain ⟨i, _, z2, m, c, z3, z4⟩ := (args_spec ok h e).2 a z
    exact ⟨i, m, c, z3, z4, z2⟩
  have bA : ∀ a, BorL as vs a → g.A a := fun a z => Own.sub ok a (bo a z)
  have cl : ∀ {j : Nat} {m c}, (putOuts avs outs g.env)[j]? = some (some (.cell m c)) → ∃ c', g.env[j]? = some (some (.cell m c')) := fun {j m c} h => by
    by_cases hj : j ∈ refsOf avs
    · obtain ⟨m', c1, c2, a, y1, _, y3, _⟩ := p3 j hj
      rw [y3] at h; cases h
      exact ⟨_, y1⟩
    · rw [p2 j hj] at h; exact ⟨_, h⟩
  refine ⟨⟨⟨fun a o h n => x.keep a o h fun z => n (bo a z), x.tup, x.frz, x.dom, fun a h n => x.av1 a h fun z => n (bo a z), x.av2⟩, fun a z => ?_, fun a z => ?_, fun j c hj => ?_, fun j c hj => ?_⟩, ⟨ok.len.trans p1.symm, fun j y hj => ?_, fun j m c hj => ?_, fun i j m c m' c' a hi hj e1 e2 => ?_, hd⟩⟩
  · obtain ⟨j, m, c, z1, z2, z3⟩ := z
    obtain ⟨c', y⟩ := cl z1
    exact .inl ⟨j, m, c', y, z2, z3⟩
  · obtain ⟨j, m, c, z1, z3⟩ := z
    obtain ⟨c', y⟩ := cl z1
    exact .inl ⟨j, m, c', y, z3⟩
  · by_cases h : j ∈ refsOf avs
    · obtain ⟨m', c1, c2, a, y1, _, y3, _⟩ := p3 j h
      rw [hj] at y1; cases y1
      exact ⟨rfl, c2, y3⟩
    · exact ⟨rfl, c, by show (putOuts avs outs g.env)[j]? = _; rw [p2 j h]; exact hj⟩
  · by_cases h : j ∈ refsOf avs
    · obtain ⟨m', c1, c2, a, y1, y2, y3, _⟩ := p3 j h
      rw [hj] at y1; cases y1
      exact absurd rfl y2
    · exact ⟨rfl, by show (putOuts avs outs g.env)[j]? = _; rw [p2 j h]; exact hj⟩
  · by_cases h : j ∈ refsOf avs
    · obtain ⟨m', c1, c2, a, y1, y2, y3, _⟩ := p3 j h
      have hj : (putOuts avs outs g.env)[j]? = _ := hj
      rw [y3] at hj; cases hj
    · have hj : (putOuts avs outs g.env)[j]? = _ := hj
      rw [p2 j h] at hj
      obtain ⟨v, q1, q2⟩ := ok.dat j y hj
      exact ⟨v, q1, Dv.ext x bA y v q2⟩
  · by_cases h : j ∈ refsOf avs
    · obtain ⟨m', c1, c2, a, y1, y2, y3, y4, y5, y6, _⟩ := p3 j h
      have hj : (putOuts avs outs g.env)[j]? = _ := hj
      rw [y3] at hj; cases hj
      exact ⟨a, y4, y5, y6⟩
    · have hj : (putOuts avs outs g.env)[j]? = _ := hj
      rw [p2 j h] at hj
      obtain ⟨a, q1, q2, q3⟩ := ok.cel j m c hj
      have nb : ¬ BorL as vs a := fun z => by
        obtain ⟨i, z1, z2, m', c', z3, z4⟩ := (args_spec ok ‹AVsR K g avs vs› e).2 a z
        have := ok.dis i j _ _ _ _ a z3 hj z2 q1
        subst this
        exact h z1
      refine ⟨a, q1, x.av1 a q2 nb, ?_⟩
      cases c with
      | lst ys => obtain ⟨us, y1, y2⟩ := q3; exact ⟨us, x.keep _ _ y1 nb, Dvs.ext x bA ys us y2⟩
      | _ => exact q3.elim
  · obtain ⟨c1, q1⟩ := cl hi
    obtain ⟨c2, q2⟩ := cl hj
    exact ok.dis i j _ _ _ _ a q1 q2 e1 e2
end
/-- f(..) -/
theorem fe_call {X : Cx} {k n : Nat} {f : Addr} {fd : FuncData} {ps : List Str} {F : List Arg → FRes} {x : Str} {p pos : Pos} {e : Expr} {es : List Expr} {fa : AF} (Fn : FnG X.prog X.w X.K X.mg X.base k f fd ps (spF X.mg X.K n F)) (hr : Room k X.A) (hgd : X.A.guards = some []) (hg : Gl X x) (hm : X.mg x = some (.ref f)) (hk : PySem.W.keepIn X.K (.ref f) = true)
    (hb : Binds X.K fd ps []) (ha : FAs X (e :: es) fa) (hdb : (x == ("__debug__" : Str)) = false := by decide) (he : starEach (e :: es) X.env = (false, eval e X.env) :: starEach es X.env := by rfl) (hpl : (backTo pos (starEach es X.env)).any (·.1) = false := by rfl) :
    FE X (.Call (.Name x p) (e :: es) [] pos) (fCallF n F fa) := by
  refine ⟨fun W tk => ⟨fun pins s σ H Q I hq => ?_⟩⟩
  obtain ⟨g, rfl, rfl, ok, o⟩ := hq
  refine wpAny_Call_Name_kw (ld_glob I hg hm ?_ hdb)
  refine PySem.W.callWith_K (h₀ := X.base) I.ok.mod.kin hk (ha.go tk ok I o.bind0 fun us s1 g1 avs vs e1 I1 r o1 st rr q => ⟨I1.kIn, ?_⟩) he hpl
  split at q
  · rename_i nd
    change (refsOf avs).Nodup at nd
    split at q
    · rename_i as ea
      change toArgs avs g1.env = some as at ea
      split at q
      · rename_i hn
        rw [← e1]
        refine run_g Fn hr hgd hb (passAt tk g1.st) I1 r ⟨g1.A, as, hn, (args_spec o1 rr ea).1, dis_spec o1 rr ea nd, o1.dom, ?_⟩
        cases hF : F as with
        | ok ret outs =>
          rw [hF] at q
          intro A' H' v x hd ho hrt
          obtain ⟨s2, o2⟩ := behind o1 rr ea nd x hd ho
          refine q { A := A', H := H', st := g1.st, env := putOuts avs outs g1.env } rfl e1 (st.trans ok s2) o2 v ?_
          cases ret with
          | d y => exact hrt
          | tmp c =>
            obtain ⟨a, rfl, h1, h2, h3⟩ := hrt
            refine ⟨a, rfl, h1, h2, none_of_dom st.ext.dom h3, fun z => ?_⟩
            obtain ⟨i, m, c', z1, z2⟩ := z
            rcases s2.has a ⟨i, m, c', z1, z2⟩ with ⟨j, m2, c2, y1, y2⟩ | y
            · obtain ⟨b, w1, w2, w3⟩ := o1.cel j m2 c2 y1
              rw [y2] at w1; cases w1
              exact w3.some h3
            · obtain ⟨j, m2, c2, y1, y2⟩ := (⟨i, m, c', z1, z2⟩ : Has _ a)
              have : ∃ c', g1.env[j]? = some (some (.cell m2 c')) := by
                obtain ⟨p1, p2, p3⟩ := put_spec (env := g1.env) o1 rr ea nd ho fun _ _ => rfl
                have y1 : (putOuts avs outs g1.env)[j]? = _ := y1
                by_cases hj : j ∈ refsOf avs
                · obtain ⟨m', c1, c3, b, w1, _, w3, _⟩ := p3 j hj
                  rw [w3] at y1; cases y1; exact ⟨_, w1⟩
                · rw [p2 j hj] at y1; exact ⟨_, y1⟩
              obtain ⟨c3, y3⟩ := this
              obtain ⟨b, w1, w2, w3⟩ := o1.cel j m2 c3 y3
              have y2 : g1.st[j]? = _ := y2
              rw [y2] at w1; cases w1
              exact w3.some h3
        | exc c fs outs =>
          rw [hF] at q
          intro A' H' cls d x hd ho hx
          obtain ⟨s2, o2⟩ := behind o1 rr ea nd x hd ho
          have := q { A := A', H := H', st := g1.st, env := putOuts avs outs g1.env } cls d rfl e1 (st.trans ok s2) o2 hx
          show W cls d g1.st H'
          rw [e1]; exact this
        | fail => rw [hF] at q; exact q.elim
      · exact q.elim
    · exact q.elim
  · exact q.elim
end BH

set_option maxRecDepth 100000
set_option maxHeartbeats 2000000
namespace BH
open PySem PySem.Spec PyProof.Rows L2

/-! ### the law's own call -/
theorem law_data {P : Program} {w : World} {K : PySem.W.Frag} {mg mb : Str → Option Value} {k n : Nat} {fa a : Addr} {fd : FuncData} {x : Str} {F : List Arg → FRes} {s₁ : Shared} {vs : List Value} {ns : List Int}
    (inK : K.In s₁.heap) (nsG : s₁.heap.Ns mainGlobals mg) (nsB : s₁.heap.Ns builtinsNs mb) (boot : ∀ x : Str, x ≠ "__name__" → mb x = bootBuiltins x) (noL : s₁.heap.NoLimit) (noG : s₁.gens = #[])
    (hobj : s₁.heap.get? a = some { cls := .type "list", data := .seq vs.toArray }) (hin : IntsAre vs ns) (hl : ns.length ≤ sizeLine) (hr : Room k callerA)
    (Fn : ∀ base : Heap, K.In base → base.Ns mainGlobals mg → FnG P w K mg base k fa fd [x] (spF mg K 1 F)) (hbind : ∀ (s : Shared) (u : Value), BindsTo s fd ⟨[u], []⟩ [(x, u)])
    (hF : ∃ outs, F [.d (.list (ns.map PyData.int))] = .ok (.d (.bool true)) outs) :
    codeAny (model P w) callerA (.call (.ref fa) ⟨[.ref a], []⟩) (fun r s' => r = .ok (.ret (.bool true)) ∧ OldK s₁.heap s'.heap ∧ s'.os = s₁.os ∧ AllBare s'.gens) s₁ := by
  have vals := vals_ints hin
  have vlen := hin.length
  have main : ∀ H : Hp, Only H → LsD K (fun _ => False) H a (ns.map V.int) → HOk P w H s₁.heap → (∀ b, H b ≠ none → b = a) → (H a ≠ none → K.lookup a = none) →
      codeAny (model P w) callerA (.call (.ref fa) ⟨[.ref a], []⟩) (fun r s' => r = .ok (.ret (.bool true)) ∧ OldK s₁.heap s'.heap ∧ s'.os = s₁.os ∧ AllBare s'.gens) s₁ := by
    intro H only hS hok onlyA freeK
    have inBase : ∀ {b : Addr} {o : Obj}, s₁.heap.get? b = some o → H b = none → (hidT s₁.heap H).get? b = some o := hidT_get
    have notDict : ∀ {b : Addr} {o : Obj} {es : Array DictEntry} {ep : Nat}, s₁.heap.get? b = some o → o.data = .dict es ep → H b = none := by
      intro b o es ep e1 e2
      by_cases z : H b = none
      · exact z
      · rw [onlyA b z, hobj] at e1
        cases e1
        have e3 : Data.seq vs.toArray _ = Data.dict es ep := e2
        cases e3
    have nsIn : ∀ {b : Addr} {m : Str → Option Value}, s₁.heap.Ns b m → (hidT s₁.heap H).Ns b m := by
      rintro b m ⟨o, es, ep, e1, e2, e3⟩
      exact ⟨o, es, ep, inBase e1 (notDict e1 e2), e2, e3⟩
    have baseK : K.In (hidT s₁.heap H) := by
      intro b o e1
      refine inBase (inK b o e1) ?_
      by_cases z : H b = none
      · exact z
      · have eb := onlyA b z
        subst eb
        rw [freeK z] at e1; cases e1
    have modB : Mod K mg (hidT s₁.heap H) := ⟨baseK, nsIn nsG, ⟨mb, nsIn nsB, boot⟩, let ⟨mc, y1, y2⟩ := noL; ⟨mc, nsIn y1, y2⟩⟩
    have env0 : Env0 P w K mg (hidT s₁.heap H) callerA [] s₁ H := ⟨rfl, modB, fun b o e => of_hidT e, Nat.le_of_eq (hidT_size _ _), trivial, fun b hb => absurd (show b ∈ ([] : List Addr) from hb) (by simp), hok, .of_eq noG⟩
    obtain ⟨outs, eF⟩ := hF
    have spec : spF mg K 1 F [.ref a] H (fun v _ => v = .bl true) fun _ _ _ => False := by
      refine ⟨fun _ => False, [.d (.list (ns.map PyData.int))], rfl, ⟨.ref a, [], rfl, ?_, rfl⟩, trivial, fun _ z => z.elim, ?_⟩
      · show Dv _ _ _ _ _
        simp only [Dv]
        refine ⟨a, ns.map V.int, rfl, hS, ?_⟩
        clear hS hin hobj hl eF vlen vals
        induction ns with
        | nil => simp only [List.map_nil, Dvs]
        | cons i r ih => exact Dvs.cons (by simp only [Dv]) ih
      · rw [eF]
        intro A' H' v _ _ _ hv
        have hv : Dv K A' H' (.bool true) v := hv
        simp only [Dv] at hv
        exact hv
    refine codeAny_mono ((Fn _ baseK (nsIn nsG)).go callerA [] s₁ H ⟨[.ref a], []⟩ [.ref a] [.ref a] _ _ hr rfl env0 (hbind s₁ (.ref a)) (.cons rfl .nil) spec) fun r s' h => ?_
    match r, h with
    | .error e, h => obtain ⟨_, _, _, _, _, _, _, _, _, _, _, _, z⟩ := (h : L2.CX P w [] H s₁ _ e s'); exact z.elim
    | .ok (.ret u), h =>
      obtain ⟨v, H', os, bare, un, hok', rv, ev⟩ := h
      have ev : v = .bl true := ev
      subst ev
      obtain rfl : u = Value.bool true := rv
      refine ⟨rfl, OldK.of_keep fun b o e => ?_, os, bare⟩
      rcases only b with z | ⟨ob, xs, z⟩
      · exact un.keep b o e z (by intro q; exact absurd (show b ∈ ([] : List Addr) from q) (by simp)) (by simp)
      · obtain ⟨y1, _⟩ := hok b _ z
        obtain ⟨y2, _⟩ := hok' b _ (un.frzs b ob _ z)
        rw [e] at y1; cases y1
        exact y2
  cases hk : K.lookup a with
  | some o =>
    have e := inK a o hk
    rw [hobj] at e
    cases e
    refine main (fun _ => none) (fun _ => .inl rfl) (.inr fun _ => .inr ⟨_, vs.toArray, _, hk, rfl, rfl, rfl, by rw [List.size_toArray, vlen]; exact hl, by simpa using vals⟩) (fun b u z => by cases (show (none : Option HO) = some u from z)) (fun b z => absurd rfl z) fun z => absurd rfl z
  | none =>
    refine main (fun b => if b = a then some (.frz { cls := .type "list", data := .seq vs.toArray } (.lst (ns.map V.int))) else none) (fun b => ?_) (.inl ⟨id, .inr ⟨{ cls := .type "list", data := .seq vs.toArray }, if_pos rfl⟩⟩) (fun b u z => ?_) (fun b z => ?_) fun _ => hk
    · by_cases q : b = a
      · exact .inr ⟨_, _, if_pos q⟩
      · exact .inl (if_neg q)
    · by_cases q : b = a
      · cases (if_pos q).symm.trans z
        subst q
        exact ⟨hobj, by rw [List.length_map]; exact hl, vs, _, vals, hobj⟩
      · cases (if_neg q).symm.trans z
    · by_cases q : b = a
      · exact q
      · exact absurd (if_neg q) z
theorem walk_data {l : PySem.W.OpenLaw} {n k : Nat} {q : Program} {loose : List Str} {XP : (Str → Option Value) → Heap → Prop} {YP : World → Heap → Prop} {d : DefRec} {K : Params → PySem.W.Frag} {x : Str} {F : List Arg → FRes}
    (hn : l.most = some n) (hn2 : n ≤ sizeLine) (hdf : d.params.defaults = []) (hr : Room k callerA) (hY : ∀ (w : World) (h : Heap), YP w h → (K w.params).In h)
    (Fn : ∀ (w : World) (mg : Str → Option Value) (fa : Addr) (h : Heap), (K w.params).In h → h.Ns mainGlobals mg → mg d.name = some (.ref fa) →
      ∃ fd : FuncData, (∀ (s : Shared) (u : Value), BindsTo s fd ⟨[u], []⟩ [(x, u)]) ∧ ∀ base : Heap, (K w.params).In base → base.Ns mainGlobals mg → FnG l.prog w (K w.params) mg base k fa fd [x] (spF mg (K w.params) 1 F))
    (hF : ∀ ns : List Int, ns.length ≤ n → ∃ outs, F [.d (.list (ns.map PyData.int))] = .ok (.d (.bool true)) outs) :
    PySem.W.WalkO q loose XP YP l.row.toRowW d [] (fun f vs => PySem.call f vs) := by
  refine Att.attach_call hn hdf fun w s₀ s₁ mg mb fa o pm cd doc a vs ns G Y ho hd hcd hmg hobj hints hlen hg => ?_
  obtain ⟨fd, hb, hFn⟩ := Fn w mg fa _ (hY w _ Y) G.T.g hmg
  exact law_data (n := n) (hY w _ Y) G.T.g G.T.b G.T.builtins G.T.nolimit hg hobj hints (Nat.le_trans hlen hn2) hr hFn hb (hF ns hlen)
end BH

set_option maxRecDepth 100000
set_option maxHeartbeats 2000000
namespace BH
open PySem PySem.Spec PyProof.Rows L2

/-- x = [.. for ..], x a plain local name -/
theorem fs_setLc {X : Cx} {i : Nat} {y : Str} {py : Pos} {elt tg iter : Expr} {ifs : List Expr} {scope : Scope} {own : List (Str × Nat)} {pos spos : Pos} {fi : IF} {vb : List Nat} {b : BF} {tt : TF} {te : CF} (hc : X.calm = true) (hN : X.N.Nodup) (hi' : X.N[i]? = some y) (hy : X.env.scope.names.lookup y = some .local)
    (hsw : swapsWith (.ListComp elt [⟨tg, iter, ifs, 0⟩] scope pos) (some (.Name y py)) spos.line X.env = pure true) (hi : FI X tg iter fi) (ok : BlkOk X.N X.env.scope scope own)
    (hg : ∀ (s : Shared) (H : Hp) (C : Addr) (cl : List (Str × Addr)) (fp : List Addr), FG (X.blk s H scope (compEnvC scope cl C X.env) fp) tg vb b) (ht : ∀ (s : Shared) (H : Hp) (C : Addr) (cl : List (Str × Addr)) (fp : List Addr), FTs (X.blk s H scope (compEnvC scope cl C X.env) fp) ifs tt)
    (he : ∀ (s : Shared) (H : Hp) (C : Addr) (cl : List (Str × Addr)) (fp : List Addr), FC (X.blk s H scope (compEnvC scope cl C X.env) fp) elt te) (hsub : ∀ i ∈ vb, i ∈ own.map (·.2) := by decide)
    (hs : ∀ x, foldedSetIterable iter X.env x = pure x := by first | exact fun _ => rfl | assumption) : FS X (.Assign [.Name y py] (.ListComp elt [⟨tg, iter, ifs, 0⟩] scope pos) spos) (fSet i (fComp fi b (own.map (·.2)) tt te)) := by
  refine ⟨fun W tk hp => ⟨fun pins s σ H D I hq => ?_⟩⟩
  obtain ⟨g, rfl, rfl, o1, o⟩ := hq
  refine (ps_setLc (X := X) (wi := tIt X W fi) (g := tBd X vb b) (tt := tTt X (fun _ _ _ _ => False) tt) (te := tCn X (fun _ _ _ _ => False) te) hc hN hi' hy hsw (hi.pi W tk) ok (fun s H C cl fp => (hg s H C cl fp).pg) (fun s H C cl fp => (ht s H C cl fp).pts _ takes0) (fun s H C cl fp => (he s H C cl fp).pe _ takes0) hs).run pins s g.st g.H D I ?_
  exact comp_core hsub o1 ((OutS.bindE o).imp fun g1 rv st e o2 p v rr => set_end o1 st e o2 rr p)
def fNeg (f : EF) : EF := fun env => (f env).bind fun p => match p.1.view p.2 with
  | some (.int i) => .ok (.d (.int (-i)), p.2)
  | _ => .fail
theorem fe_neg {X : Cx} {a : Expr} {f : EF} {pos : Pos} (h : FE X a f) : FE X (.UnaryOp .USub a pos) (fNeg f) := by
  refine ⟨fun W tk => ⟨fun pins s σ H Q I hq => ?_⟩⟩
  obtain ⟨g, rfl, rfl, ok, o⟩ := hq
  refine (pe_un un_neg (h.pe W tk)).run pins s g.st g.H Q I ⟨g, rfl, rfl, ok, o.bind0.imp fun g1 rv st e o1 p v rr => ?_⟩
  split at p
  · rename_i i hi
    obtain rfl := dw_int (rr.dw o1 hi)
    exact ⟨i, rfl, p g1 rfl e st o1 _ (by show Dv _ _ _ _ _; simp only [Dv])⟩
  · exact p.elim
def fDic0 : EF := fC (.dict [])
theorem fe_dict0 {X : Cx} {pos : Pos} : FE X (.Dict [] [] pos) fDic0 := by
  refine ⟨fun W tk => ⟨fun pins s σ H Q I hq => ?_⟩⟩
  obtain ⟨g, rfl, rfl, ok, o⟩ := hq
  refine pe_dnewK.run pins s g.st g.H Q I fun p hp => ?_
  have e : ∀ O, Ext O g.A g.H g.A (upd g.H p (.dK [])) := fun O => alloc_ext hp
  refine o { g with H := upd g.H p (.dK []) } rfl rfl (Stp.same e) (ok.ext (e _) (fun _ h => h) (fun a h => (e (fun _ => False)).dom a (ok.dom a h))) (.ref p) ?_
  show Dv _ _ _ _ _
  simp only [Dv]
  exact ⟨trivial, p, rfl, fun z => ok.dom p z hp, upd_same⟩
end BH

set_option maxRecDepth 100000
set_option maxHeartbeats 4000000
namespace BH
open PySem PySem.Spec PyProof.Rows L2

/-! ### a list of lists of our own, its items to be written -/
structure TbI (H0 : Hp) (g : G) (p : Addr) (as : List Addr) (wss : List (List Int)) : Prop where
  nd : as.Nodup
  pn : p ∉ as
  ln : as.length = wss.length
  it : ∀ (i : Nat) a ws, as[i]? = some a → wss[i]? = some ws → g.H a = some (.lst (ws.map V.int)) ∧ ¬ g.A a ∧ H0 a = none
structure Tb (H0 : Hp) (g : G) (p : Addr) (as : List Addr) (wss : List (List Int)) : Prop where
  hp : g.H p = some (.lst (as.map V.ref))
  np : ¬ g.A p
  fp : H0 p = none
  i : TbI H0 g p as wss
theorem off_keep {K : PySem.W.Frag} {g g' : G} {a : Addr} {o : HO} (ok : g.Ok K) (s : Stp g g') (h : g.H a = some o) (n : ¬ g.A a) : g'.H a = some o ∧ ¬ g'.A a := by
  refine ⟨s.ext.keep a o h fun z => n (Own.sub ok a z), fun z => ?_⟩
  rcases s.ext.av2 a z with y | y
  · exact n y
  · rw [h] at y; cases y
theorem TbI.get {H0 : Hp} {g : G} {p : Addr} {as : List Addr} {wss : List (List Int)} (t : TbI H0 g p as wss) {a : Addr} (h : a ∈ as) : ∃ (i : Nat) (ws : List Int), as[i]? = some a ∧ wss[i]? = some ws ∧ g.H a = some (.lst (ws.map V.int)) ∧ ¬ g.A a ∧ H0 a = none := by
  obtain ⟨i, hi⟩ := List.getElem?_of_mem h
  have hl : i < wss.length := by rw [← t.ln]; exact (List.getElem?_eq_some_iff.mp hi).1
  have hw : wss[i]? = some wss[i] := List.getElem?_eq_getElem hl
  obtain ⟨h1, h2, h3⟩ := t.it i a _ hi hw
  exact ⟨i, _, hi, hw, h1, h2, h3⟩
theorem TbI.step {K : PySem.W.Frag} {H0 : Hp} {g g' : G} {p : Addr} {as : List Addr} {wss : List (List Int)} (t : TbI H0 g p as wss) (ok : g.Ok K) (s : Stp g g') : TbI H0 g' p as wss :=
  ⟨t.nd, t.pn, t.ln, fun i a ws h1 h2 => by
    obtain ⟨q1, q2, q3⟩ := t.it i a ws h1 h2
    obtain ⟨y1, y2⟩ := off_keep ok s q1 q2
    exact ⟨y1, y2, q3⟩⟩
theorem Tb.step {K : PySem.W.Frag} {H0 : Hp} {g g' : G} {p : Addr} {as : List Addr} {wss : List (List Int)} (t : Tb H0 g p as wss) (ok : g.Ok K) (s : Stp g g') : Tb H0 g' p as wss := by
  obtain ⟨y1, y2⟩ := off_keep ok s t.hp t.np
  exact ⟨y1, y2, t.fp, t.i.step ok s⟩
def tabD (wss : List (List Int)) : PyData := .list (wss.map fun ws => .list (ws.map PyData.int))
theorem dvs_intsA {K : PySem.W.Frag} {A : AS} {H : Hp} : ∀ (ns : List Int), Dvs K A H (ns.map PyData.int) (ns.map V.int)
  | [] => by simp only [List.map_nil, Dvs]
  | n :: r => Dvs.cons (by simp only [Dv]) (dvs_intsA r)
theorem ints_dvs {K : PySem.W.Frag} {A : AS} {H : Hp} : ∀ {ns : List Int} {vs : List V}, Dvs K A H (ns.map PyData.int) vs → vs = ns.map V.int
  | [], vs, h => by simp only [List.map_nil, Dvs] at h; exact h
  | n :: r, vs, h => by
    simp only [List.map_cons, Dvs] at h
    obtain ⟨v, t, rfl, h1, h2⟩ := h
    simp only [Dv] at h1
    rw [h1, ints_dvs h2]; rfl
theorem items_dv {K : PySem.W.Frag} {A : AS} {H : Hp} : ∀ {as : List Addr} {wss : List (List Int)}, as.length = wss.length → (∀ (i : Nat) a ws, as[i]? = some a → wss[i]? = some ws → H a = some (.lst (ws.map V.int)) ∧ ¬ A a) → Dvs K A H (wss.map fun ws => .list (ws.map PyData.int)) (as.map V.ref)
  | [], [], _, _ => by simp only [List.map_nil, Dvs]
  | [], _ :: _, h, _ => by simp at h
  | _ :: _, [], h, _ => by simp at h
  | a :: as, ws :: wss, h, hi => by
    obtain ⟨h1, h2⟩ := hi 0 a ws rfl rfl
    refine Dvs.cons ?_ (items_dv (by simpa using h) fun i a ws e1 e2 => hi (i + 1) a ws (by simpa using e1) (by simpa using e2))
    simp only [Dv]
    exact ⟨a, _, rfl, .inl ⟨h2, .inl h1⟩, dvs_intsA ws⟩
theorem Tb.dv {K : PySem.W.Frag} {H0 : Hp} {g : G} {p : Addr} {as : List Addr} {wss : List (List Int)} (t : Tb H0 g p as wss) : Dv K g.A g.H (tabD wss) (.ref p) := by
  unfold tabD
  simp only [Dv]
  exact ⟨p, _, rfl, .inl ⟨t.np, .inl t.hp⟩, items_dv t.i.ln fun i a ws h1 h2 => ⟨(t.i.it i a ws h1 h2).1, (t.i.it i a ws h1 h2).2.1⟩⟩

/-! ### [[..] for ..] -/
def cLoop2 (b : BF) (vs : List Nat) (te : EF) : List PyData → SE → List (List Int) → Res (List (List Int) × SE)
  | [], env, acc => .ok (acc, env)
  | x :: xs, env, acc => if noCell env vs = true then match b x (wipeE env vs) with
    | none => .fail
    | some e1 => match te e1 with
      | .ok (.tmp (.lst ys), e3) => match intsOf ys with
        | some ns => if acc.length < lim then cLoop2 b vs te xs (restE env vs e3) (acc ++ [ns]) else .fail
        | none => .fail
      | _ => .fail
    else .fail
def fTab (fi : IF) (b : BF) (vs : List Nat) (te : EF) : SE → Res (List (List Int) × SE) := fun env => (fi env).bind fun p => match cLoop2 b vs te p.1.1 (lockAll p.1.2 p.2) [] with
  | .ok (acc, e) => .ok (acc, unlockAll p.1.2 p.2 e)
  | .exc _ _ _ => .fail
  | .fail => .fail
theorem free_step {K : PySem.W.Frag} {g0 g : G} {a : Addr} (ok : g0.Ok K) (s : Stp g0 g) (h : g0.H a = none) : Stp g0 (g.free a) :=
  ⟨⟨s.ext.keep, s.ext.tup, s.ext.frz, s.ext.dom, fun b h1 h2 => ⟨s.ext.av1 b h1 h2, fun z => ok.dom b h1 (by rw [z]; exact h)⟩, fun b h1 => s.ext.av2 b h1.1⟩, s.own, s.has, s.bor, s.lck⟩
theorem comp_core2 {X : Cx} {own : List (Str × Nat)} {fi : IF} {vb : List Nat} {b : BF} {te : EF} (hsub : ∀ i ∈ vb, i ∈ own.map (·.2)) {W : WX} {g : G} {Q : VK} (ok : g.Ok X.K) (o : Out X W g (fTab fi b (own.map (·.2)) te g.env) fun g' acc => ∀ p as, Tb g.H g' p as acc → Q (.ref p) g'.H) :
    tLc (tIt X W fi) (tBd X vb b) (tTt X (fun _ _ _ _ => False) fYes) (tE X (fun _ _ _ _ => False) te) (own.map (·.2)) g.st g.H Q := by
  generalize own.map (·.2) = vs at *
  refine ⟨g, rfl, rfl, ok, o.bind0.imp fun g1 p st e o1 q J L hL hJ D hD => ?_⟩
  obtain ⟨ds, lk⟩ := p
  obtain ⟨S, s0, sx, sd, sj⟩ := hJ
  cases hr : cLoop2 b vs te ds (lockAll lk g1.env) [] with
  | exc c fs env' => rw [hr] at q; exact q.elim
  | fail => rw [hr] at q; exact q.elim
  | ok y =>
  obtain ⟨fin, envF⟩ := y
  rw [hr] at q
  simp only at q
  have oL : (lockG lk g1).Ok X.K := ok_lockAll lk o1
  obtain ⟨sB1, sB2, a0, ha0, hA0, hC0, hf0, hh0⟩ := alloc_lst (g := lockG lk g1) oL hD Dvs.nil
  cases ha0
  have hLD : ∀ a, L a → a ≠ D := fun a la z => sd _ _ s0 a la (by rw [z]; exact hD)
  have hne : ∀ {a o}, g1.H a = some o → a ≠ D := fun {a o} h z => by rw [z, hD] at h; cases h
  have sS : S (fun b => g1.A b ∨ b = D) (upd g1.H D (.lst [])) := sx (fun _ => False) _ _ _ _ s0 ⟨fun a o h _ => by rw [upd_ne (hne h)]; exact h, sB1.ext.tup, sB1.ext.frz, sB1.ext.dom, fun a h _ => .inl h, sB1.ext.av2⟩ (fun _ z => z.elim) (fun _ _ z => z)
  refine ⟨fun i m H => m = ds.length - i ∧ i ≤ ds.length ∧ ∃ (g2 : G) (acc : List (List Int)) (as : List Addr), g2.st = g.st ∧ g2.H = H ∧ g2.Ok X.K ∧ Stp (lockG lk g1) g2 ∧ S g2.A g2.H ∧ g2.A D ∧ g2.H D = some (.lst (as.map V.ref)) ∧ TbI g1.H g2 D as acc ∧ ¬ Has g2 D ∧ cLoop2 b vs te (ds.drop i) g2.env acc = .ok (fin, envF),
    ⟨ds.length, rfl, Nat.zero_le _, _, [], [], ?_, ?_, sB2, sB1, sS, .inr rfl, upd_same, ⟨List.nodup_nil, by simp, rfl, fun i a ws h _ => by simp at h⟩, hh0, hr⟩, ?_⟩
  · exact e
  · rfl
  rintro i m H' ⟨rfl, hle, g2, acc, as, k1, rfl, o2, s2, ss, hA, hH, hd, hh, oo⟩
  by_cases hlt : i < ds.length
  · obtain ⟨go, yl⟩ := (sj _ _ ss).1 i _ (List.getElem?_eq_getElem hlt)
    rw [List.drop_eq_getElem_cons hlt] at oo
    simp only [cLoop2] at oo
    split at oo
    · rename_i nc
      refine .inr ⟨go, _, fun H' z => ⟨ds.length - (i + 1), by omega, z⟩, fun x H' hy => ?_⟩
      obtain ⟨ex, dv⟩ := yl x H' hy
      have s3 : Stp g2 { g2 with H := H' } := Stp.same ex
      have o3 : ({ g2 with H := H' } : G).Ok X.K := o2.ext (ex _) (fun _ h => h) (fun a h => (ex (fun _ => False)).dom a (o2.dom a h))
      have h3 : H' D = some (.lst (as.map V.ref)) := (ex (fun _ => False)).keep D _ hH id
      cases hb1 : b ds[i] (wipeE g2.env vs) with
      | none => rw [hb1] at oo; cases oo
      | some env1 =>
        rw [hb1] at oo
        simp only at oo
        rw [← k1]
        refine ⟨wipeG vs { g2 with H := H' }, ds[i], env1, rfl, rfl, ok_wipe o3, dv, hb1, fun g4 e4 a4 f4 s4 o4 h4 => ?_⟩
        have hw : wipe g4.st vs = wipe g2.st vs := wipe_same (by rw [f4.1]; exact wipe_length _ _) fun j hj => by
          rw [(f4.2.2 j fun z => hj (hsub j z)).1]
          exact wipe_out hj
        refine ⟨hw, g4, rfl, rfl, o4, ?_⟩
        rw [e4]
        intro g5 e5 q5 s5 o5
        show if true = true then _ else _
        rw [if_pos rfl]
        refine ⟨g5, q5, rfl, o5, ?_⟩
        rw [e5]
        split at oo
        · rename_i ys e3 hte
          split at oo
          · rename_i ns hns
            split at oo
            · rename_i hlen
              rw [hte]
              intro g6 e6 q6 s6 o6 v rr
              obtain ⟨a, rfl, aA, ⟨vs', aH, aD⟩, aF, aN⟩ := rr
              have hys := intsOf_map hns
              subst hys
              have hvs := ints_dvs aD
              subst hvs
              have s36 := (s4.trans (ok_wipe o3) s5).trans (ok_wipe o3) s6
              have s35 := s4.trans (ok_wipe o3) s5
              obtain ⟨r1, r2, r3⟩ := rest_step (g := { g2 with H := H' }) o3 nc s36 o6 (by rw [q6, q5]; exact hw)
              have s26 := s3.trans o2 r1
              have nh : ¬ Has (wipeG vs { g2 with H := H' }) D := fun z => hh (has_wipe z)
              have no : ¬ Own (wipeG vs { g2 with H := H' }) D := fun ⟨i, m, c, q1, _, q2⟩ => nh ⟨i, m, c, q1, q2⟩
              have hD5 : g5.H D ≠ none := by rw [s35.ext.keep D _ h3 no]; simp
              have aD' : D ≠ a := fun z => by rw [z] at hD5; exact hD5 aF
              have aL : (lockG lk g1).H a = none := none_of_dom (fun b hb => s35.ext.dom b ((ex (fun _ => False)).dom b (s2.ext.dom b hb))) aF
              have hD6 : g6.H D = some (.lst (as.map V.ref)) := s36.ext.keep D _ h3 no
              have hA6 : g6.A D := s36.ext.av1 D hA no
              have nH6 : ¬ Has { g6 with st := g2.st, env := restE g2.env vs g6.env } D := fun z => by
                rcases s36.has D (r3 D z) with y | y
                · exact nh y
                · exact absurd y (by show H' D ≠ none; rw [h3]; simp)
              have S6 : S g6.A g6.H := sx (Own g2) _ _ _ _ ss s26.ext (Own.sub o2) fun b lb ob => by
                rcases s2.own b ob with z | z
                · exact hL b lb z
                · exact sd _ _ s0 b lb z
              have t6 : TbI g1.H { g6 with st := g2.st, env := restE g2.env vs g6.env } D as acc := hd.step o2 s26
              have aNew : a ∉ as := fun z => by
                obtain ⟨j, ws, _, _, y3, y4, _⟩ := hd.get z
                have y5 := (off_keep o2 (s3.trans o2 (Stp.refl _)) y3 y4).1
                have y5 : H' a = _ := y5
                have na : ¬ Own (wipeG vs { g2 with H := H' }) a := fun w => y4 (Own.sub o2 a (own_wipe w : Own { g2 with H := H' } a))
                have := s35.ext.keep a _ y5 na
                rw [aF] at this; cases this
              have nHa : ¬ Has { g6 with st := g2.st, env := restE g2.env vs g6.env } a := fun z => aN (r3 a z)
              have o7 := r2.free nHa
              have s7 : Stp (lockG lk g1) (G.free { g6 with st := g2.st, env := restE g2.env vs g6.env } a) := free_step oL (s2.trans oL s26) aL
              have S7 : S (fun b => g6.A b ∧ b ≠ a) g6.H := sx (fun b => b = a) _ _ _ _ S6 ⟨fun _ _ h _ => h, fun _ _ h => h, fun _ _ _ h => h, fun _ h => h, fun b h n => ⟨h, n⟩, fun b h => .inl h.1⟩ (fun b z => by rw [z]; exact aA) fun b lb z => by
                have z : b = a := z
                rw [z] at lb
                exact sd _ _ s0 a lb aL
              obtain ⟨b1, b2, b3⟩ := bump (g0 := lockG lk g1) (g := G.free { g6 with st := g2.st, env := restE g2.env vs g6.env } a) (ws' := (as ++ [a]).map V.ref) o7 ⟨hA6, aD'⟩ nH6 hD6 hD s7
              have sub : ∀ b, b = D → (G.free { g6 with st := g2.st, env := restE g2.env vs g6.env } a).A b := fun b z => by rw [z]; exact ⟨hA6, aD'⟩
              refine ⟨as.map V.ref, hD6, by rw [List.length_map, hd.ln, ← lim_line]; exact hlen, rfl, hlt, { g6 with A := fun b => g6.A b ∧ b ≠ a, st := g2.st, env := restE g2.env vs g6.env, H := upd g6.H D (.lst ((as ++ [a]).map V.ref)) }, acc ++ [ns], as ++ [a], rfl, by simp, b3, b2, sx (fun b => b = D) _ _ _ _ S7 b1 sub (fun b lb z => hLD b lb z), ⟨hA6, aD'⟩, upd_same, ?_, nH6, ?_⟩
              · refine ⟨?_, ?_, by simp [hd.ln], fun j b ws h1 h2 => ?_⟩
                · rw [List.nodup_append]
                  refine ⟨hd.nd, by simp, fun x hx y hy z => ?_⟩
                  rw [List.mem_singleton] at hy
                  exact aNew (by rw [← hy, ← z]; exact hx)
                · simp only [List.mem_append, List.mem_singleton, not_or]
                  exact ⟨hd.pn, aD'⟩
                · by_cases hj : j < as.length
                  · rw [List.getElem?_append_left hj] at h1
                    rw [List.getElem?_append_left (by rw [← hd.ln]; exact hj)] at h2
                    obtain ⟨y1, y2, y3⟩ := t6.it j b ws h1 h2
                    have hbD : b ≠ D := fun z => hd.pn (by rw [← z]; exact List.mem_of_getElem? h1)
                    exact ⟨by show upd g6.H D _ b = _; rw [upd_ne hbD]; exact y1, fun z => y2 z.1, y3⟩
                  · have hlj : j = as.length := by
                      have := (List.getElem?_eq_some_iff.mp h1).1
                      simp at this
                      omega
                    subst hlj
                    rw [List.getElem?_append_right (Nat.le_refl _)] at h1
                    rw [hd.ln, List.getElem?_append_right (Nat.le_refl _)] at h2
                    simp at h1 h2
                    subst h1 h2
                    exact ⟨by show upd g6.H D _ a = _; rw [upd_ne (Ne.symm aD')]; exact aH, fun z => z.2 rfl, aL⟩
              · show cLoop2 b vs te _ (restE g2.env vs g6.env) _ = _
                rw [e6]; exact oo
            · cases oo
          · cases oo
        · cases oo
    · cases oo
  · have hi : i = ds.length := by omega
    subst hi
    refine .inl ⟨(sj _ _ ss).2, ?_⟩
    simp only [List.drop_length, cLoop2, Res.ok.injEq, Prod.mk.injEq] at oo
    obtain ⟨rfl, rfl⟩ := oo
    obtain ⟨s3, o3⟩ := unlock_all lk o1 s2 o2
    have nh3 : ¬ Has { g2 with env := unlockAll lk g1.env g2.env } D := fun z => hh (has_unlock lk o1 o2 s2 z)
    refine q (G.free { g2 with env := unlockAll lk g1.env g2.env } D) rfl k1 (free_step ok (st.trans ok s3) (none_of_dom st.ext.dom hD)) (o3.free nh3) D as ⟨hH, fun z => z.2 rfl, none_of_dom st.ext.dom hD, hd.nd, hd.pn, hd.ln, fun j a ws h1 h2 => ?_⟩
    obtain ⟨y1, y2, y3⟩ := hd.it j a ws h1 h2
    exact ⟨y1, fun z => y2 z.1, none_of_dom st.ext.dom y3⟩
end BH

set_option maxRecDepth 100000
set_option maxHeartbeats 4000000
namespace BH
open PySem PySem.Spec PyProof.Rows L2

def flatD : PyData → Bool
  | .none => true
  | .bool _ => true
  | .int _ => true
  | .str _ => true
  | _ => false
def flatO : Option MV → Bool
  | none => true
  | some (.d x) => flatD x
  | some (.cell _ (.lst xs)) => xs.all flatD
  | _ => false
def flatAll (env : SE) : Bool := env.all flatO
theorem dv_flat {K : PySem.W.Frag} {A A' : AS} {H H' : Hp} {x : PyData} {v : V} (f : flatD x = true) (h : Dv K A H x v) : Dv K A' H' x v := by
  cases x <;> simp [flatD] at f <;> simpa only [Dv] using h
theorem dvs_flat {K : PySem.W.Frag} {A A' : AS} {H H' : Hp} : ∀ {xs : List PyData} {vs : List V}, xs.all flatD = true → Dvs K A H xs vs → Dvs K A' H' xs vs
  | [], vs, _, h => by simp only [Dvs] at h ⊢; exact h
  | x :: xs, vs, f, h => by
    simp only [List.all_cons, Bool.and_eq_true] at f
    simp only [Dvs] at h
    obtain ⟨v, t, rfl, h1, h2⟩ := h
    exact Dvs.cons (dv_flat f.1 h1) (dvs_flat f.2 h2)
theorem flat_get {env : SE} {i : Nat} {o : Option MV} (h : flatAll env = true) (e : env[i]? = some o) : flatO o = true := List.all_eq_true.mp h o (List.mem_of_getElem? e)
theorem nodup_inj {α : Type} : ∀ {l : List α} {i j : Nat} {x : α}, l.Nodup → l[i]? = some x → l[j]? = some x → i = j
  | [], i, _, _, _, h, _ => by simp at h
  | y :: l, 0, 0, _, _, _, _ => rfl
  | y :: l, 0, j + 1, x, nd, h1, h2 => by
    simp at h1 h2; subst h1
    exact absurd (List.mem_of_getElem? h2) (List.nodup_cons.mp nd).1
  | y :: l, i + 1, 0, x, nd, h1, h2 => by
    simp at h1 h2; subst h2
    exact absurd (List.mem_of_getElem? h1) (List.nodup_cons.mp nd).1
  | y :: l, i + 1, j + 1, x, nd, h1, h2 => by
    rw [nodup_inj (i := i) (j := j) (x := x) (List.nodup_cons.mp nd).2 (by simpa using h1) (by simpa using h2)]
/-- an item of an item is written -/
theorem tab_set {K : PySem.W.Frag} {g0 g : G} {p a : Addr} {as : List Addr} {wss : List (List Int)} {ws : List Int} {rw ro jn kn : Nat} {z : Int} (ok : g.Ok K) (s : Stp g0 g) (t : Tb g0.H g p as wss) (hst : g.st[rw]? = some (some (.ref p))) (ne : ro ≠ rw)
    (nc : noCell g.env [ro, rw] = true) (fl : flatAll ((g.env.set ro none).set rw none) = true) (ha : as[jn]? = some a) (hw : wss[jn]? = some ws) :
    let g' : G := { A := g.A, H := upd g.H a (.lst ((ws.set kn z).map V.int)), st := g.st.set ro (some (.ref a)), env := (g.env.set ro none).set rw (some (.d (tabD (wss.set jn (ws.set kn z))))) }
    (rw < g.env.length) → g'.Ok K ∧ Stp g0 g' ∧ Tb g0.H g' p as (wss.set jn (ws.set kn z)) ∧ g'.st[rw]? = some (some (.ref p)) := by
  intro g' hlr
  obtain ⟨h1, h2, h3⟩ := t.i.it jn a ws ha hw
  have pa : p ≠ a := fun e => t.i.pn (by rw [e]; exact List.mem_of_getElem? ha)
  have hj : jn < wss.length := (List.getElem?_eq_some_iff.mp hw).1
  have tb : Tb g0.H g' p as (wss.set jn (ws.set kn z)) := by
    refine ⟨by show upd g.H a _ p = _; rw [upd_ne pa]; exact t.hp, t.np, t.fp, t.i.nd, t.i.pn, by rw [List.length_set]; exact t.i.ln, fun i b ws' e1 e2 => ?_⟩
    by_cases e : i = jn
    · subst e
      rw [ha] at e1; cases e1
      rw [List.getElem?_set_self hj] at e2; cases e2
      exact ⟨upd_same, h2, h3⟩
    · rw [List.getElem?_set_ne (Ne.symm e)] at e2
      obtain ⟨y1, y2, y3⟩ := t.i.it i b ws' e1 e2
      have ba : b ≠ a := fun q => by
        subst q
        exact e (nodup_inj t.i.nd e1 ha)
      exact ⟨by show upd g.H a _ b = _; rw [upd_ne ba]; exact y1, y2, y3⟩
  have hst' : g'.st[rw]? = some (some (.ref p)) := by
    show (g.st.set ro _)[rw]? = _
    rw [List.getElem?_set_ne ne]; exact hst
  have get : ∀ {j : Nat} {mv : MV}, g'.env[j]? = some (some mv) → (j = rw ∧ mv = .d (tabD (wss.set jn (ws.set kn z)))) ∨ (j ≠ rw ∧ j ≠ ro ∧ g.env[j]? = some (some mv) ∧ g'.st[j]? = g.st[j]? ∧ ((g.env.set ro none).set rw none)[j]? = some (some mv)) := fun {j mv} h => by
    have h : ((g.env.set ro none).set rw (some (.d (tabD (wss.set jn (ws.set kn z))))))[j]? = some (some mv) := h
    by_cases e : j = rw
    · subst e
      rw [List.getElem?_set_self (by simpa using hlr)] at h
      simp only [Option.some.injEq] at h
      exact .inl ⟨rfl, h.symm⟩
    · rw [List.getElem?_set_ne (Ne.symm e)] at h
      by_cases e2 : j = ro
      · subst e2
        rw [List.getElem?_set] at h
        simp only [if_true] at h
        split at h <;> simp at h
      · have h' := h
        rw [List.getElem?_set_ne (Ne.symm e2)] at h
        exact .inr ⟨e, e2, h, by show (g.st.set ro _)[j]? = _; rw [List.getElem?_set_ne (Ne.symm e2)], by rw [List.getElem?_set_ne (Ne.symm e)]; exact h'⟩
  have cl : ∀ {j : Nat} {m c}, g'.env[j]? = some (some (.cell m c)) → g.env[j]? = some (some (.cell m c)) ∧ g'.st[j]? = g.st[j]? ∧ ((g.env.set ro none).set rw none)[j]? = some (some (.cell m c)) := fun {j m c} h => by
    rcases get h with ⟨_, h⟩ | ⟨_, _, h, h2, h3⟩
    · cases h
    · exact ⟨h, h2, h3⟩
  have lc : ∀ {j : Nat} {m c}, g.env[j]? = some (some (.cell m c)) → g'.env[j]? = some (some (.cell m c)) ∧ g'.st[j]? = g.st[j]? := fun {j m c} h => by
    have n1 : j ≠ ro := fun e => noCell_not nc (i := j) (by simp [e]) h
    have n2 : j ≠ rw := fun e => noCell_not nc (i := j) (by simp [e]) h
    refine ⟨?_, ?_⟩
    · show ((g.env.set ro none).set rw _)[j]? = _
      rw [List.getElem?_set_ne (Ne.symm n2), List.getElem?_set_ne (Ne.symm n1)]; exact h
    · show (g.st.set ro _)[j]? = _
      rw [List.getElem?_set_ne (Ne.symm n1)]
  refine ⟨⟨?_, fun j x h => ?_, fun j m c h => ?_, fun i j m c m' c' b hi hj e1 e2 => ?_, fun b hb => ?_⟩, ⟨⟨fun b o h n => ?_, fun b o h => ?_, fun b o u h => ?_, fun b h => ?_, s.ext.av1, s.ext.av2⟩, fun b h => ?_, fun b h => ?_, fun j c h => ?_, fun j c h => ?_⟩, tb, hst'⟩
  · show (g.st.set ro _).length = ((g.env.set ro none).set rw _).length
    simp [ok.len]
  · rcases get h with ⟨e, h⟩ | ⟨_, _, h, h2, h3⟩
    · cases h; subst e
      exact ⟨.ref p, hst', tb.dv⟩
    · obtain ⟨v, q1, q2⟩ := ok.dat j x h
      exact ⟨v, h2.trans q1, dv_flat (flat_get fl h3) q2⟩
  · obtain ⟨h1', h2', h3'⟩ := cl h
    obtain ⟨b, q1, q2, q3⟩ := ok.cel j m c h1'
    have ba : b ≠ a := fun e => h2 (by rw [← e]; exact q2)
    refine ⟨b, h2'.trans q1, q2, ?_⟩
    cases c with
    | lst xs =>
      obtain ⟨us, y1, y2⟩ := q3
      exact ⟨us, by show upd g.H a _ b = _; rw [upd_ne ba]; exact y1, dvs_flat (flat_get fl h3') y2⟩
    | _ => exact q3.elim
  · obtain ⟨y1, y2, _⟩ := cl hi
    obtain ⟨w1, w2, _⟩ := cl hj
    exact ok.dis i j m c m' c' b y1 w1 (y2.symm.trans e1) (w2.symm.trans e2)
  · show upd g.H a _ b ≠ none
    rw [upd_ne (fun e => h2 (by rw [← e]; exact hb))]
    exact ok.dom b hb
  · show upd g.H a _ b = _
    rw [upd_ne (fun e => by rw [e, h3] at h; cases h)]
    exact s.ext.keep b o h n
  · show upd g.H a _ b = _
    rw [upd_ne (fun e => by rw [e, h3] at h; cases h)]
    exact s.ext.tup b o h
  · show upd g.H a _ b = _
    rw [upd_ne (fun e => by rw [e, h3] at h; cases h)]
    exact s.ext.frz b o u h
  · show upd g.H a _ b ≠ none
    rw [upd_ne (fun e => h (by rw [e]; exact h3))]
    exact s.ext.dom b h
  · obtain ⟨j, m, c, q1, q2, q3⟩ := h
    obtain ⟨y1, y2, _⟩ := cl q1
    exact s.own b ⟨j, m, c, y1, q2, y2.symm.trans q3⟩
  · obtain ⟨j, m, c, q1, q3⟩ := h
    obtain ⟨y1, y2, _⟩ := cl q1
    exact s.has b ⟨j, m, c, y1, y2.symm.trans q3⟩
  · obtain ⟨e1, c', e2⟩ := s.bor j c h
    obtain ⟨y1, y2⟩ := lc e2
    exact ⟨y2.trans e1, c', y1⟩
  · obtain ⟨e1, e2⟩ := s.lck j c h
    obtain ⟨y1, y2⟩ := lc e2
    exact ⟨y2.trans e1, y1⟩
def fixLoop (test : TF) (call : EF) (rw ro ki : Nat) : List PyData → SE → List (List Int) → Res (List (List Int) × SE)
  | [], env, wss => .ok (wss, env)
  | x :: xs, env, wss => match bName ki x env with
    | none => .fail
    | some e1 => match test e1 with
      | .ok (false, e2) => fixLoop test call rw ro ki xs e2 wss
      | .ok (true, e2) => match call e2 with
        | .ok (.d (.int j), e3) => match e3[ki]?, ixN wss.length j with
          | some (some (.d (.int k))), some jn => match wss[jn]? with
            | some ws => match ixN ws.length k with
              | some kn => if (flatAll ((e3.set ro none).set rw none) && noCell e3 [ro, rw]) = true ∧ rw < e3.length ∧ ro < e3.length then
                  fixLoop test call rw ro ki xs ((e3.set ro none).set rw (some (.d (tabD (wss.set jn (ws.set kn 1)))))) (wss.set jn (ws.set kn 1))
                else .fail
              | none => .fail
            | none => .fail
          | _, _ => .fail
        | _ => .fail
      | _ => .fail
def fRows (fi : IF) (b : BF) (vs : List Nat) (te : EF) (f2 : EFs) (test : TF) (call : EF) (rw ro ki : Nat) (rest : SF) : SF := fun env => (fTab fi b vs te env).bind fun p => match setS p.2 rw (.d (tabD p.1)) with
  | none => .fail
  | some env1 => (f2 env1).bind fun q => match views q.1 q.2 with
    | some [.int n] => if rngG n then (fixLoop test call rw ro ki (rangeD 0 n.toNat) q.2 p.1).bind fun r => rest r.2 else .fail
    | _ => .fail
theorem rangeD_get {n i : Nat} (h : i < (rangeD 0 n).length) : (rangeD 0 n)[i] = .int (0 + (i : Nat)) := by
  unfold rangeD
  simp
theorem seq_asg {te : TE} {i : Nat} {rest : TS} {D : Ends} {σ : L2.St} {H : Hp} (h : te σ H fun x H1 => rest D (σ.set i (some x)) H1) : tSeq (tAsg te (gName i)) rest D σ H := by
  unfold tSeq tAsg gName
  exact h
theorem fss_rows {X : Cx} {rw ro ki : Nat} {y yk yr : Str} {py pk pr pc pyr pys psub psp p1 p2 p3 p4 p5 pif pfor : Pos} {jc : Nat} {elt tg iter a2 test call : Expr} {scope : Scope} {own : List (Str × Nat)} {pos spos : Pos} {fi : IF} {vb : List Nat} {b : BF} {te : EF} {f2 : EFs} {ftest : TF} {fcall : EF} {rest : List Stmt} {frest : SF}
    (hc : X.calm = true) (hN : X.N.Nodup) (hi1 : X.N[rw]? = some y) (hy : X.env.scope.names.lookup y = some .local) (hsw : swapsWith (.ListComp elt [⟨tg, iter, [], 0⟩] scope pos) (some (.Name y py)) spos.line X.env = pure true)
    (hi : FI X tg iter fi) (okb : BlkOk X.N X.env.scope scope own) (hg : ∀ (s : Shared) (H : Hp) (C : Addr) (cl : List (Str × Addr)) (fp : List Addr), FG (X.blk s H scope (compEnvC scope cl C X.env) fp) tg vb b)
    (he : ∀ (s : Shared) (H : Hp) (C : Addr) (cl : List (Str × Addr)) (fp : List Addr), FE (X.blk s H scope (compEnvC scope cl C X.env) fp) elt te) (hsub : ∀ i ∈ vb, i ∈ own.map (·.2)) (hs : ∀ x, foldedSetIterable iter X.env x = pure x)
    (hgr : Gl X "range") (hmr : X.mg "range" = none) (ha2 : FPs X [a2] f2) (hsa : starEach [a2] X.env = [(false, eval a2 X.env)]) (hs2 : ∀ x, foldedSetIterable (.Call (.Name "range" pr) [a2] [] pc) X.env x = pure x)
    (hik : X.N[ki]? = some yk) (hlk : Loc X.env.scope yk) (hfk : X.fn yk = true ∨ X.env.scope.names.lookup yk = some .local) (ht : FT X test ftest) (hcall : FE X call fcall) (hpi : PlainIx call)
    (hir : X.N[ro]? = some yr) (hlr : Loc X.env.scope yr) (hfr : X.fn yr = true ∨ X.env.scope.names.lookup yr = some .local) (hsr : swapsWith (.Subscript (.Name y pys) call psub) (some (.Name yr pyr)) psp.line X.env = pure false)
    (vr : PE X (.Name y pys) (tVar rw)) (vo : PE X (.Name yr p1) (tVar ro)) (vk : PE X (.Name yk p2) (tVar ki)) (ne1 : ro ≠ rw) (ne2 : ki ≠ rw) (ne3 : ki ≠ ro)
    (hs5 : swapsWithSole [.Subscript (.Name yr p1) (.Name yk p2) p3] (.Constant (.int 1) jc p4) p5.line X.env = pure false) (hw5 : swappedStores [.Subscript (.Name yr p1) (.Name yk p2) p3] (.Constant (.int 1) jc p4) X.env = pure none)
    (h15 : (assignEach [.Subscript (.Name yr p1) (.Name yk p2) p3] X.env).map (·.2) = [assign (.Subscript (.Name yr p1) (.Name yk p2) p3) X.env])
    (ha5 : ∀ v, assign (.Subscript (.Name yr p1) (.Name yk p2) p3) X.env v = (do
      let ov ← holding [v] (eval (.Name yr p1) X.env)
      let iv ← holding [v, ov] (eval (.Name yk p2) X.env)
      standAt p3
      holding [v, ov, iv] (setItem ov iv v)
      release [v, ov, iv] []))
    (hrest : FSs X rest frest) :
    FSs X (.Assign [.Name y py] (.ListComp elt [⟨tg, iter, [], 0⟩] scope pos) spos ::
      .For (.Name yk pk) (.Call (.Name "range" pr) [a2] [] pc) [.If test [.Assign [.Name yr pyr] (.Subscript (.Name y pys) call psub) psp, .Assign [.Subscript (.Name yr p1) (.Name yk p2) p3] (.Constant (.int 1) jc p4) p5] [] pif] [] pfor :: rest)
      (fRows fi b (own.map (·.2)) te f2 ftest fcall rw ro ki frest) := by
  refine ⟨fun W tk hp => ⟨fun pins s σ H D I hq => ?_⟩⟩
  obtain ⟨g, rfl, rfl, ok, o⟩ := hq
  have P1 := ps_setLc (X := X) (i := rw) (wi := tIt X W fi) (g := tBd X vb b) (tt := tTt X (fun _ _ _ _ => False) fYes) (te := tE X (fun _ _ _ _ => False) te) hc hN hi1 hy hsw (hi.pi W tk) okb (fun s H C cl fp => (hg s H C cl fp).pg) (fun s H C cl fp => (fts_nil (X := X.blk s H scope (compEnvC scope cl C X.env) fp)).pts _ takes0) (fun s H C cl fp => (he s H C cl fp).pe _ takes0) hs
  have P2 := ps_for (X := X) (pos := pfor) hp hc (pi_range1 (p := pr) (pos := pc) hgr hmr (ha2.pa W tk) hsa) (pg_name (pos := pk) hN hik hlk hfk)
    (pss_one (ps_if (pos := pif) (ht.pt W tk) (pss_cons (ps_set (i := ro) hN hir hlr (pe_ix (X := X) ix_list vr (hcall.pe W tk) hpi) hsr hfr) (pss_one (ps_asg (X := X) (pos := p5) pe_int (pg_sub vo vk set_list ha5) hs5 hw5 h15))) pss_nil)) hs2
  refine (pss_cons P1 (pss_cons P2 (hrest.pss W tk hp))).run pins s g.st g.H D I ?_
  refine seq_asg (comp_core2 hsub ok ((OutS.bindE o).imp fun g1 wss st e o1 p pA as tb => ?_))
  cases hset : setS g1.env rw (.d (tabD wss)) with
  | none => rw [hset] at p; exact p.elim
  | some env1 =>
  rw [hset] at p
  simp only at p
  obtain ⟨s2, o2⟩ := set_data o1 tb.dv hset
  have tb2 := tb.step o1 s2
  have st02 := st.trans ok s2
  have hl : rw < g1.env.length := setS_lt hset
  have hst2 : (g1.st.set rw (some (V.ref pA)))[rw]? = some (some (.ref pA)) := List.getElem?_set_self (by rw [o1.len]; exact hl)
  refine ⟨{ g1 with st := g1.st.set rw (some (.ref pA)), env := env1 }, by rw [← e], rfl, o2, ?_⟩
  show Out X W _ (f2 env1) _
  cases hf2 : f2 env1 with
  | fail => rw [hf2] at p; exact p.elim
  | exc c fs env' =>
    rw [hf2] at p
    intro g' cls d e1 e2 s' o' x'
    have := p g' cls d e1 (st02.trans ok s') o' x'
    rw [e2] at this
    exact this
  | ok q =>
  obtain ⟨q, env3⟩ := q
  rw [hf2] at p
  have p : OutS X W g (match views q env3 with
    | some [.int n] => if rngG n then (fixLoop ftest fcall rw ro ki (rangeD 0 n.toNat) env3 wss).bind fun r => frest r.2 else .fail
    | _ => .fail) D := p
  intro g3 e3 q3 s3 o3 vs rr
  subst e3
  have tb3 := tb2.step o2 s3
  have st03 := st02.trans ok s3
  split at p
  · rename_i n hv
    obtain ⟨v, rfl, hx⟩ := dws1 (rr.dws o3 hv)
    obtain rfl := dw_int hx
    split at p
    · rename_i hr
      refine ⟨n, rfl, hr.1, hr.2, fun i m σ H => m = n.toNat - i ∧ i ≤ n.toNat ∧ ∃ (g4 : G) (wss : List (List Int)), g4.st = σ ∧ g4.H = H ∧ g4.Ok X.K ∧ Stp g g4 ∧ Tb g.H g4 pA as wss ∧ g4.st[rw]? = some (some (.ref pA)) ∧ OutS X W g ((fixLoop ftest fcall rw ro ki ((rangeD 0 n.toNat).drop i) g4.env wss).bind fun r => frest r.2) D,
        ⟨n.toNat, rfl, Nat.zero_le _, g3, wss, ?_, rfl, o3, st03, tb3, ?_, p⟩, ?_⟩
      · rw [q3, ← e]
      · rw [q3]; exact hst2
      rintro i m σ H ⟨rfl, hle, g4, wss, rfl, rfl, o4, s4, t4, hst4, oo⟩
      have hlen : (rangeD 0 n.toNat).length = n.toNat := by unfold rangeD; simp
      by_cases hlt : i < n.toNat
      · have hlt' : i < (rangeD 0 n.toNat).length := by rw [hlen]; exact hlt
        rw [List.drop_eq_getElem_cons hlt', rangeD_get hlt'] at oo
        simp only [fixLoop] at oo
        refine .inr ⟨hlt, fun σ H => ∃ (g4 : G) (wss : List (List Int)), g4.st = σ ∧ g4.H = H ∧ g4.Ok X.K ∧ Stp g g4 ∧ Tb g.H g4 pA as wss ∧ g4.st[rw]? = some (some (.ref pA)) ∧ OutS X W g ((fixLoop ftest fcall rw ro ki ((rangeD 0 n.toNat).drop (i + 1)) g4.env wss).bind fun r => frest r.2) D,
          fun σ' H' z => ⟨n.toNat - (i + 1), by omega, rfl, hlt, z⟩, fun x H' hy => ?_⟩
        obtain ⟨rfl, rfl⟩ := hy
        cases hb : bName ki (.int (0 + (i : Nat))) g4.env with
        | none => rw [hb] at oo; exact oo.elim
        | some e1 =>
          rw [hb] at oo
          simp only at oo
          obtain ⟨s5, o5⟩ := set_data (v := .int (0 + (i : Nat))) o4 (by simp only [Dv]) hb
          have t5 := t4.step o4 s5
          have s05 := s4.trans ok s5
          have hst5 : (g4.st.set ki (some (V.int (0 + (i : Nat)))))[rw]? = some (some (.ref pA)) := by rw [List.getElem?_set_ne ne2]; exact hst4
          refine ⟨{ g4 with st := g4.st.set ki (some (.int (0 + (i : Nat)))), env := e1 }, rfl, rfl, o5, ?_⟩
          show Out X W _ (ftest e1) _
          cases htt : ftest e1 with
          | fail => rw [htt] at oo; exact oo.elim
          | exc c fs env' => rw [htt] at oo; exact oo.elim
          | ok z =>
            obtain ⟨bb, e2⟩ := z
            rw [htt] at oo
            intro g6 e6 q6 s6 o6
            have t6 := t5.step o5 s6
            have s06 := s05.trans ok s6
            have hst6 : g6.st[rw]? = some (some (.ref pA)) := by rw [q6]; exact hst5
            cases bb with
            | false =>
              simp only at oo
              exact ⟨g6, wss, q6, rfl, o6, s06, t6, hst6, by rw [e6]; exact oo⟩
            | true =>
              simp only at oo
              show if true = true then _ else _
              rw [if_pos rfl]
              refine ⟨.ref pA, hst5, g6, q6, rfl, o6, ?_⟩
              rw [e6]
              cases hcc : fcall e2 with
              | fail => rw [hcc] at oo; exact oo.elim
              | exc c fs env' => rw [hcc] at oo; exact oo.elim
              | ok z =>
                obtain ⟨rv, e3⟩ := z
                rw [hcc] at oo
                split at oo
                · rename_i j e3' hrv
                  cases hrv
                  intro g7 e7 q7 s7 o7 v rr7
                  have rr7 : Dv X.K g7.A g7.H (.int j) v := rr7
                  simp only [Dv] at rr7
                  subst rr7
                  have t7 := t6.step o6 s7
                  have s07 := s06.trans ok s7
                  have hst7 : g7.st[rw]? = some (some (.ref pA)) := by rw [q7]; exact hst6
                  split at oo
                  · rename_i k jn hk hjn
                    split at oo
                    · rename_i ws hws
                      split at oo
                      · rename_i kn hkn
                        split at oo
                        · rename_i hcond
                          obtain ⟨hfl, hlrw, hlro⟩ := hcond
                          simp only [Bool.and_eq_true] at hfl
                          have hja : jn < as.length := by rw [t7.i.ln]; exact (List.getElem?_eq_some_iff.mp hws).1
                          have haj : as[jn]? = some as[jn] := List.getElem?_eq_getElem hja
                          obtain ⟨y1, y2, y3⟩ := t7.i.it jn _ ws haj hws
                          rw [← e7] at hfl hk hlrw hlro
                          obtain ⟨r1, r2, r3, r4⟩ := tab_set (kn := kn) (z := 1) o7 s07 t7 hst7 ne1 hfl.2 hfl.1 haj hws hlrw
                          obtain ⟨w, z1, z2⟩ := o7.dat ki _ hk
                          simp only [Dv] at z2
                          subst z2
                          have q75 : g7.st = g4.st.set ki (some (.int (0 + (i : Nat)))) := q7.trans q6
                          refine ⟨pA, as.map V.ref, j, .ref as[jn], rfl, rfl, .of t7.hp, ?_, ?_⟩
                          · unfold atI
                            rw [List.length_map, t7.i.ln, hjn]
                            show (as.map V.ref)[jn]? = _
                            rw [List.getElem?_map, haj]; rfl
                          · show tAsg (tC (.int 1)) (gSub (tVar ro) (tVar ki) rSetL) _ ((g4.st.set ki (some (.int (0 + (i : Nat))))).set ro (some (.ref as[jn]))) g7.H
                            rw [← q75]
                            refine ⟨.ref as[jn], List.getElem?_set_self (by rw [o7.len]; exact hlro), .int k, by rw [List.getElem?_set_ne (Ne.symm ne3)]; exact z1, as[jn], ws.map V.int, k, kn, rfl, rfl, y1, by rw [List.length_map]; exact hkn, ?_⟩
                            refine ⟨_, wss.set jn (ws.set kn 1), rfl, ?_, r1, r2, r3, r4, ?_⟩
                            · show upd g7.H as[jn] (.lst ((ws.set kn 1).map V.int)) = _
                              rw [List.map_set]
                            · show OutS X W g ((fixLoop ftest fcall rw ro ki _ ((g7.env.set ro none).set rw _) _).bind _) D
                              rw [e7]; exact oo
                        · exact oo.elim
                      · exact oo.elim
                    · exact oo.elim
                  · exact oo.elim
                · exact oo.elim
      · have hi : i = n.toNat := by omega
        subst hi
        refine .inl ⟨Nat.le_refl _, ?_⟩
        rw [List.drop_of_length_le (by rw [hlen]; exact Nat.le_refl _)] at oo
        exact ⟨g4, rfl, rfl, o4, OutS.rebase ok s4 oo⟩
    · exact p.elim
  · exact p.elim
end BH

set_option maxRecDepth 100000
set_option maxHeartbeats 2000000
namespace BH
open PySem PySem.Spec PyProof.Rows L2
theorem hu65 {A : Around} {k : Nat} (hr : Room k A) : A.units + 65 < cLine := by have := hr.un; omega
def opLt : PyData → PyData → Option RV := opInt fun i j => decide (i < j)
def opLe : PyData → PyData → Option RV := opInt fun i j => decide (i ≤ j)
def opGt : PyData → PyData → Option RV := opInt fun i j => decide (j < i)
def opGe : PyData → PyData → Option RV := opInt fun i j => decide (j ≤ i)
def fuel_law_cut1 (env : SE) : Nat := 100
end BH

set_option maxRecDepth 100000
set_option maxHeartbeats 2000000
namespace BH
open PySem PySem.Spec PyProof.Rows L2

/-! ### reading a reading -/
theorem seq_nx {f t : SF} {env e : SE} (h : f env = .ok (.nx, e)) : fSeqS f t env = t e := by unfold fSeqS; rw [h]; rfl
theorem seq_rt {f t : SF} {env e : SE} {r : Ret} (h : f env = .ok (.rt r, e)) : fSeqS f t env = .ok (.rt r, e) := by unfold fSeqS; rw [h]; rfl
theorem if_t {c : TF} {a b : SF} {env e : SE} (h : c env = .ok (true, e)) : fIfS c a b env = a e := by unfold fIfS; rw [h]; rfl
theorem if_f {c : TF} {a b : SF} {env e : SE} (h : c env = .ok (false, e)) : fIfS c a b env = b e := by unfold fIfS; rw [h]; rfl
theorem loop_inv {b : BF} {body : SF} (P : Nat → SE → Prop) : ∀ (xs : List PyData) (k : Nat), (∀ (i : Nat) x env, xs[i]? = some x → P (k + i) env → ∃ e1, b x env = some e1 ∧ ∃ e2, body e1 = .ok (.nx, e2) ∧ P (k + i + 1) e2) → ∀ env, P k env → ∃ e2, fLoop b body xs env = .ok (.nx, e2) ∧ P (k + xs.length) e2
  | [], k, _, env, p => ⟨env, rfl, p⟩
  | x :: xs, k, h, env, p => by
    obtain ⟨e1, h1, e2, h2, p2⟩ := h 0 x env rfl p
    obtain ⟨e3, h3, p3⟩ := loop_inv P xs (k + 1) (fun i y env hi q => by
      have := h (i + 1) y env (by simpa using hi) (by rw [← Nat.add_assoc, Nat.add_right_comm]; exact q)
      rw [show k + (i + 1) = k + 1 + i by omega] at this
      exact this) e2 p2
    refine ⟨e3, ?_, by rw [List.length_cons, show k + (xs.length + 1) = k + 1 + xs.length by omega]; exact p3⟩
    simp only [fLoop, h1, h2]
    exact h3
theorem comp_inv {b : BF} {vs : List Nat} {tt : TF} {te : CF} (P : Nat → SE → List PyData → Prop) : ∀ (xs : List PyData) (k : Nat), (∀ (i : Nat) x env acc, xs[i]? = some x → P (k + i) env acc → noCell env vs = true ∧ ∃ e1, b x (wipeE env vs) = some e1 ∧
      ((∃ e2 y e3, tt e1 = .ok (true, e2) ∧ te e2 = .ok (y, e3) ∧ acc.length < lim ∧ P (k + i + 1) (restE env vs e3) (acc ++ [y])) ∨ (∃ e2, tt e1 = .ok (false, e2) ∧ P (k + i + 1) (restE env vs e2) acc))) →
    ∀ env acc, P k env acc → ∃ acc' e2, cLoop b vs tt te xs env acc = .ok (acc', e2) ∧ P (k + xs.length) e2 acc'
  | [], k, _, env, acc, p => ⟨acc, env, rfl, p⟩
  | x :: xs, k, h, env, acc, p => by
    obtain ⟨nc, e1, h1, hh⟩ := h 0 x env acc rfl p
    have rest := fun env' acc' p' => comp_inv (te := te) (tt := tt) (b := b) (vs := vs) P xs (k + 1) (fun i y env acc hi q => by
      have := h (i + 1) y env acc (by simpa using hi) (by rw [← Nat.add_assoc, Nat.add_right_comm]; exact q)
      rw [show k + (i + 1) = k + 1 + i by omega] at this
      exact this) env' acc' p'
    rw [List.length_cons, show k + (xs.length + 1) = k + 1 + xs.length by omega]
    simp only [cLoop, nc, if_true, h1]
    rcases hh with ⟨e2, y, e3, h2, h3, h4, p2⟩ | ⟨e2, h2, p2⟩
    · simp only [h2, h3, h4, if_true]
      exact rest _ _ p2
    · simp only [h2]
      exact rest _ _ p2
/-- a comprehension that changes no slot: its elements -/
theorem comp_map {b : BF} {vs : List Nat} {tt : TF} {te : CF} {env : SE} (xs : List PyData) (g : PyData → PyData) (nc : noCell env vs = true) (h : ∀ x ∈ xs, ∃ e1, b x (wipeE env vs) = some e1 ∧ ∃ e2 e3, tt e1 = .ok (true, e2) ∧ te e2 = .ok (g x, e3) ∧ restE env vs e3 = env) (hl : xs.length ≤ lim) :
    cLoop b vs tt te xs env [] = .ok (xs.map g, env) := by
  have : ∀ (ys acc : List PyData), (∀ x ∈ ys, x ∈ xs) → acc.length + ys.length ≤ lim → cLoop b vs tt te ys env acc = .ok (acc ++ ys.map g, env) := by
    intro ys
    induction ys with
    | nil => intro acc _ _; simp [cLoop]
    | cons y r ih =>
      intro acc hy hlen
      obtain ⟨e1, h1, e2, e3, h2, h3, h4⟩ := h y (hy y List.mem_cons_self)
      simp only [List.length_cons] at hlen
      have hlt : acc.length < lim := by omega
      simp only [cLoop, nc, if_true, h1, h2, h3, hlt, h4]
      rw [ih (acc ++ [g y]) (fun x hx => hy x (List.mem_cons_of_mem _ hx)) (by simp; omega)]
      simp
  simpa using this xs [] (fun _ h => h) (by simpa using hl)
def okO : Option MV → Prop
  | some (.cell .bor _) => False
  | some (.cell .lock _) => False
  | _ => True
def setO (o : Option MV) (env : SE) (i : Nat) (mv : MV) : Option SE := match o with
  | some (.cell .bor _) => none
  | some (.cell .lock _) => none
  | _ => some (env.set i (some mv))
theorem setS_def (env : SE) (i : Nat) (mv : MV) : setS env i mv = match env[i]? with
  | some o => setO o env i mv
  | none => none := by
  unfold setS
  cases h : env[i]? with
  | none => rfl
  | some o =>
    cases o with
    | none => rfl
    | some x => cases x with
      | d y => rfl
      | cell m c => cases m <;> rfl
theorem setO_ok {o : Option MV} {env : SE} {i : Nat} {mv : MV} (h : okO o) : setO o env i mv = some (env.set i (some mv)) := by
  unfold setO
  cases o with
  | none => rfl
  | some x => cases x with
    | d y => rfl
    | cell m c => cases m with
      | own => rfl
      | bor => exact h.elim
      | lock => exact h.elim
theorem okO_none : okO none := trivial
theorem okO_d {x : PyData} : okO (some (.d x)) := trivial
theorem okO_own {c : Cell} : okO (some (.cell .own c)) := trivial
theorem cut_mem {α : Type} {xs : List α} {lo hi : Option Int} {x : α} (h : x ∈ cutD xs lo hi) : x ∈ xs := List.mem_of_mem_drop (List.mem_of_mem_take h)
theorem int_mem {ns : List Int} {x : PyData} (h : x ∈ ns.map PyData.int) : ∃ i, x = .int i := by
  obtain ⟨i, _, e⟩ := List.mem_map.mp h
  exact ⟨i, e.symm⟩
theorem setO_none {env : SE} {i : Nat} {mv : MV} : setO none env i mv = some (env.set i (some mv)) := rfl
theorem setO_d {x : PyData} {env : SE} {i : Nat} {mv : MV} : setO (some (.d x)) env i mv = some (env.set i (some mv)) := rfl
theorem setO_own {c : Cell} {env : SE} {i : Nat} {mv : MV} : setO (some (.cell .own c)) env i mv = some (env.set i (some mv)) := rfl
def Nx (r : Res (Fl × SE)) (R : SE → Prop) : Prop := ∃ e, r = .ok (.nx, e) ∧ R e
def Rt (r : Res (Fl × SE)) (Q : Ret → SE → Prop) : Prop := ∃ v e, r = .ok (.rt v, e) ∧ Q v e
theorem rt_seq {f t : SF} {env : SE} {R : SE → Prop} {Q : Ret → SE → Prop} (h : Nx (f env) R) (ht : ∀ e, R e → Rt (t e) Q) : Rt (fSeqS f t env) Q := by
  obtain ⟨e, h1, h2⟩ := h
  rw [seq_nx h1]; exact ht e h2
theorem rt_now {f t : SF} {env : SE} {Q : Ret → SE → Prop} (h : Rt (f env) Q) : Rt (fSeqS f t env) Q := by
  obtain ⟨v, e, h1, h2⟩ := h
  rw [seq_rt h1]; exact ⟨v, e, rfl, h2⟩
theorem nx_seq {f t : SF} {env : SE} {R R' : SE → Prop} (h : Nx (f env) R) (ht : ∀ e, R e → Nx (t e) R') : Nx (fSeqS f t env) R' := by
  obtain ⟨e, h1, h2⟩ := h
  rw [seq_nx h1]; exact ht e h2
theorem nx_end {env : SE} {R : SE → Prop} (h : R env) : Nx (fNextS env) R := ⟨env, rfl, h⟩
theorem nx_for {fi : IF} {b : BF} {body : SF} {env env1 : SE} {xs : List PyData} {R : SE → Prop} (P : Nat → SE → Prop) (hfi : fi env = .ok ((xs, []), env1)) (h0 : P 0 env1)
    (hs : ∀ (i : Nat) x env, xs[i]? = some x → P i env → ∃ e1, b x env = some e1 ∧ Nx (body e1) (P (i + 1))) (hd : ∀ e, P xs.length e → R e) : Nx (fFor fi b body env) R := by
  obtain ⟨e2, h1, h2⟩ := loop_inv P xs 0 (fun i x env hi p => by
    rw [Nat.zero_add] at p ⊢
    obtain ⟨e1, a, e2, b', c⟩ := hs i x env hi p
    exact ⟨e1, a, e2, b', c⟩) env1 h0
  rw [Nat.zero_add] at h2
  refine ⟨e2, ?_, hd e2 h2⟩
  show (fi env).bind _ = _
  rw [hfi]
  show fUnl [] env1 (fLoop b body xs env1) = _
  rw [h1]; rfl
theorem fn_rt {n : Nat} {f : SF} {as : List Arg} {Q : Ret → SE → Prop} (h : Rt (f (envOf n as)) Q) : ∃ v e, fnF n f as = .ok v (outsOf as e) ∧ Q v e := by
  obtain ⟨v, e, h1, h2⟩ := h
  refine ⟨v, e, ?_, h2⟩
  unfold fnF
  rw [h1]
end BH

set_option maxRecDepth 100000
set_option maxHeartbeats 4000000
namespace BH
open PySem PySem.Spec PyProof.Rows L2

/-! ### methods that change an own list -/
/-- what a method of one argument does to the list, what it hands back -/
abbrev Op1 := List PyData → PyData → Option (PyData × List PyData)
def fMeth1 (j : Nat) (op : Op1) (fv : CF) : EF := fun env => match env[j]? with
  | some (some (.cell _ _)) => (fv env).bind fun p => match p.2[j]? with
    | some (some (.cell m (.lst xs))) => match op xs p.1 with
      | some r => match pokeE p.2 j fun _ => some r.2 with
        | some env' => .ok (.d r.1, env')
        | none => .fail
      | none => .fail
    | _ => .fail
  | _ => .fail
def Meth1 (r : V → List V → Hp → VK → Prop) (op : Op1) : Prop :=
  ∀ (K : PySem.W.Frag) (A : AS) (H : Hp) (a : Addr) (xs : List PyData) (vs : List V) (x : PyData) (v : V) (y : PyData) (ys : List PyData) (Q : VK), H a = some (.lst vs) → Dvs K A H xs vs → Dv K A H x v → op xs x = some (y, ys) →
    (∀ w ws, Dv K A H y w → Dvs K A H ys ws → Q w (upd H a (.lst ws))) → r (.ref a) [v] H Q
theorem poke_dv {K : PySem.W.Frag} {g : G} {a : Addr} {vs ws : List V} {y : PyData} {w : V} (hA : g.A a) (hH : g.H a = some (.lst vs)) (h : Dv K g.A g.H y w) : Dv K g.A (upd g.H a (.lst ws)) y w := by
  have e : Ext (fun b => b = a) g.A g.H g.A (upd g.H a (.lst ws)) :=
    ⟨fun b o h n => by rw [upd_ne n]; exact h, fun b o h => by rw [upd_ne (fun z => by rw [z, hH] at h; cases h)]; exact h, fun b o u h => by rw [upd_ne (fun z => by rw [z, hH] at h; cases h)]; exact h,
      fun b h => by by_cases z : b = a; (rw [z, upd_same]; simp); (rw [upd_ne z]; exact h), fun b h _ => h, fun b h => .inl h⟩
  exact Dv.ext e (fun b z => by rw [z]; exact hA) y w h
theorem fe_meth1 {X : Cx} {o e : Expr} {j : Nat} {name : Str} {apos cpos : Pos} {id : String} {r : V → List V → Hp → VK → Prop} {op : Op1} {fv : CF} (slot : Slot "list" name id) (hty : typeOf (.builtin id) = pure (.type "method_descriptor")) (hm : MtR X id r) (hop : Meth1 r op) (ho : PE X o (tVar j)) (hv : FC X e fv)
    (hbase : attributeBase o name X.env (eval o X.env) = eval o X.env := by rfl)
    (hfew : ((backTo cpos (starEach (e :: []) X.env)).all (fun x => !x.1) && (backToKw cpos (keywordEach [] X.env)).all (fun x => x.1.isSome)
      && decide ((e :: []).length + ([] : List Keyword).length + (if ([] : List Keyword).isEmpty then 0 else 1) < 30)) = true := by rfl)
    (hline : (apos.endLine == cpos.line) = true := by rfl) (hs : starEach (e :: []) X.env = (false, eval e X.env) :: starEach [] X.env := by rfl) (hplain : (backTo cpos (starEach [] X.env)).any (·.1) = false := by rfl) :
    FE X (.Call (.Attribute o name apos) [e] [] cpos) (fMeth1 j op fv) := by
  refine ⟨fun W tk => ⟨fun pins s σ H Q I hq => ?_⟩⟩
  obtain ⟨g, rfl, rfl, ok, oo⟩ := hq
  unfold fMeth1 at oo
  split at oo
  · rename_i m c hj
    obtain ⟨a, q1, q2, q3⟩ := ok.cel j m c hj
    cases c with
    | lst xs0 =>
      obtain ⟨vs0, y1, y2⟩ := q3
      refine (pe_bm (X := X) PySem.F.plainAttrs_list slot hty hm ho (pa_cons (hv.pe W tk) pa_nil hs) hbase hfew hline hs hplain).run pins s g.st g.H Q I ⟨.ref a, q1, .inl ⟨rfl, vs0, .of y1⟩, g, rfl, rfl, ok, oo.bind0.imp fun g1 x st e1 o1 p v dv => ?_⟩
      split at p
      · rename_i m1 xs hj1
        change g1.env[j]? = _ at hj1
        cases hr : op xs x with
        | none => rw [hr] at p; exact p.elim
        | some r1 =>
          obtain ⟨y, ys⟩ := r1
          rw [hr] at p
          simp only at p
          cases hp : pokeE g1.env j fun _ => some ys with
          | none => rw [hp] at p; exact p.elim
          | some env' =>
            rw [hp] at p
            simp only at p
            have hst : g1.st[j]? = some (some (.ref a)) := by rw [e1]; exact q1
            obtain ⟨m2, a2, xs2, ys2, vs2, ea, hm2, hj2, hf, hH, hd, he⟩ := poke_of o1 hst hp
            cases ea
            rw [hj1] at hj2; cases hj2
            cases hf
            have hA : g1.A a := by
              obtain ⟨b, w1, w2, _⟩ := o1.cel j _ _ hj1
              rw [hst] at w1; cases w1; exact w2
            refine hop X.K g1.A g1.H a xs vs2 x v y ys Q hH hd dv hr fun w ws hw hws => ?_
            obtain ⟨s4, o4⟩ := poke (ws := ws) o1 hj1 hm2 hst hH hws
            rw [← he] at s4 o4
            exact p { g1 with H := upd g1.H a (.lst ws), env := env' } rfl e1 (st.trans ok s4) o4 w (poke_dv hA hH hw)
      · exact p.elim
    | _ => exact q3.elim
  · exact oo.elim
def opAppend : Op1 := fun xs x => if xs.length < lim then some (.none, xs ++ [x]) else none
theorem meth_append : Meth1 rAppend opAppend := by
  intro K A H a xs vs x v y ys Q hH hd hv e hQ
  unfold opAppend at e
  split at e
  · rename_i h
    cases e
    exact ⟨a, vs, v, rfl, rfl, hH, by rw [← hd.length, ← lim_line]; exact h, hQ .non _ (by simp only [Dv]) (hd.append (Dvs.one hv))⟩
  · cases e
theorem fe_append {X : Cx} {o e : Expr} {j : Nat} {apos cpos : Pos} {fv : CF} (ho : PE X o (tVar j)) (hv : FC X e fv) (hbase : attributeBase o "append" X.env (eval o X.env) = eval o X.env := by rfl)
    (hfew : ((backTo cpos (starEach (e :: []) X.env)).all (fun x => !x.1) && (backToKw cpos (keywordEach [] X.env)).all (fun x => x.1.isSome)
      && decide ((e :: []).length + ([] : List Keyword).length + (if ([] : List Keyword).isEmpty then 0 else 1) < 30)) = true := by rfl)
    (hline : (apos.endLine == cpos.line) = true := by rfl) (hs : starEach (e :: []) X.env = (false, eval e X.env) :: starEach [] X.env := by rfl) (hplain : (backTo cpos (starEach [] X.env)).any (·.1) = false := by rfl) : FE X (.Call (.Attribute o "append" apos) [e] [] cpos) (fMeth1 j opAppend fv) :=
  fe_meth1 PySem.F.slot_list_append PySem.F.type_list_append mt_append meth_append ho hv hbase hfew hline hs hplain
def opPopAt : Op1 := fun xs x => match x with
  | .int i => if -(2 ^ 63) ≤ i ∧ i < 2 ^ 63 then match ixN xs.length i with
    | some k => match xs[k]? with
      | some y => some (y, xs.eraseIdx k)
      | none => none
    | none => none
    else none
  | _ => none
theorem dvs_erase {K : PySem.W.Frag} {A : AS} {H : Hp} : ∀ {xs : List PyData} {vs : List V} (k : Nat), Dvs K A H xs vs → Dvs K A H (xs.eraseIdx k) (vs.eraseIdx k)
  | [], vs, k, h => by
    simp only [Dvs] at h
    subst h
    simp only [List.eraseIdx_nil, Dvs]
  | x :: xs, vs, 0, h => by
    simp only [Dvs] at h
    obtain ⟨v, t, rfl, _, h⟩ := h
    exact h
  | x :: xs, vs, k + 1, h => by
    simp only [Dvs] at h
    obtain ⟨v, t, rfl, h1, h⟩ := h
    simp only [List.eraseIdx_cons_succ]
    exact Dvs.cons h1 (dvs_erase k h)
theorem meth_popAt : Meth1 rPopAt opPopAt := by
  intro K A H a xs vs x v y ys Q hH hd hv e hQ
  unfold opPopAt at e
  split at e
  · rename_i i
    simp only [Dv] at hv
    subst hv
    split at e
    · rename_i hi
      cases hk : ixN xs.length i with
      | none => rw [hk] at e; cases e
      | some k =>
        rw [hk] at e
        simp only at e
        cases hy : xs[k]? with
        | none => rw [hy] at e; cases e
        | some z =>
          rw [hy] at e; cases e
          obtain ⟨w, h1, h2⟩ := hd.getD hy
          obtain ⟨s1, _⟩ := ixN_seq hk
          exact ⟨a, vs, i, k, w, rfl, rfl, hH, hi.1, hi.2, by rw [← hd.length]; exact s1, h1, hQ w _ h2 (dvs_erase k hd)⟩
    · cases e
  · cases e
theorem fe_popAt {X : Cx} {o e : Expr} {j : Nat} {apos cpos : Pos} {fv : CF} (ho : PE X o (tVar j)) (hv : FC X e fv) (hbase : attributeBase o "pop" X.env (eval o X.env) = eval o X.env := by rfl)
    (hfew : ((backTo cpos (starEach (e :: []) X.env)).all (fun x => !x.1) && (backToKw cpos (keywordEach [] X.env)).all (fun x => x.1.isSome)
      && decide ((e :: []).length + ([] : List Keyword).length + (if ([] : List Keyword).isEmpty then 0 else 1) < 30)) = true := by rfl)
    (hline : (apos.endLine == cpos.line) = true := by rfl) (hs : starEach (e :: []) X.env = (false, eval e X.env) :: starEach [] X.env := by rfl) (hplain : (backTo cpos (starEach [] X.env)).any (·.1) = false := by rfl) : FE X (.Call (.Attribute o "pop" apos) [e] [] cpos) (fMeth1 j opPopAt fv) :=
  fe_meth1 PySem.F.slot_list_pop PySem.F.type_list_pop mt_popAt meth_popAt ho hv hbase hfew hline hs hplain
end BH

set_option maxRecDepth 100000
set_option maxHeartbeats 4000000
namespace BH
open PySem PySem.Spec PyProof.Rows L2

/-! ### max, min of a list or a tuple of ints -/
def itemsOf : PyData → Option (List PyData)
  | .list xs => some xs
  | .tuple xs => some xs
  | _ => none
def opExt (f : Int → Int → Int) : List PyData → Option RV
  | [x] => match itemsOf x with
    | some xs => match intsOf xs with
      | some (n :: ns) => some (.d (.int (ns.foldl f n)))
      | _ => none
    | none => none
  | _ => none
theorem alike_ints (ns : List Int) : PySem.W.AlikeAll (ns.map PyData.int) := by
  refine ⟨fun x hx y hy => ?_, fun x hx => ?_⟩
  · obtain ⟨a, _, rfl⟩ := List.mem_map.mp hx
    obtain ⟨b, _, rfl⟩ := List.mem_map.mp hy
    first | rfl | simp [alike] | decide
  · obtain ⟨a, _, rfl⟩ := List.mem_map.mp hx
    exact fun z => by cases z
theorem depth_ints (ns : List Int) : PyData.depthAll (ns.map PyData.int) = 0 := by
  induction ns with
  | nil => simp [PyData.depthAll]
  | cons n r ih => simp [PyData.depthAll, PyData.depth, ih]
theorem ext_end {X : Cx} {g : G} {pins : List (Addr × Obj)} {s : Shared} {k : Int} {v : Value} {h' : Heap} {tk : Nat} {bs : List Addr} (ok : g.Ok X.K) (I : Inv X pins g.st g.H s) (r : Reads h' v (.int k) bs) (hk : ∀ b o, s.heap.get? b = some o → h'.get? b = some o) : OpQ X pins g (.d (.int k)) v { s with heap := h', toks := tk } := by
  cases r with
  | int _ t => exact ⟨.int k, g, rfl, rfl, I.kept (t' := tk) hk, ⟨t, rfl⟩, .refl g, ok, rvr_int⟩
theorem cd_max1 {X : Cx} (hc : X.calm = true) (hu : X.A.units + 65 < cLine) : CallD X (.builtin "max") (opExt max) := by
  intro g pins s xs vs us r ok I hx rv e
  unfold opExt at e
  split at e
  · rename_i x
    obtain ⟨v, rfl, hv⟩ := dws1 hx
    cases rv with
    | cons r1 r2 =>
      cases r2
      cases x with
      | list ds =>
        simp only [itemsOf] at e
        split at e
        · rename_i n ns hi
          cases e
          obtain ⟨a, ws, rfl, q, t⟩ := dw_lst hv
          cases r1
          obtain ⟨its, rvs, pl, _⟩ := I.list q
          have hd := intsOf_map hi
          subst hd
          obtain ⟨as, hr⟩ := Dvs.reads I _ _ _ t rvs
          refine PySem.W.max_list_data (x := .int n) (xs := ns.map .int) (I.ok.hd hc) pl.isList (by simpa using hr) (alike_ints (n :: ns)) (by have := depth_ints (n :: ns); rw [List.map_cons] at this; rw [this]; omega) fun i v h' tk bs hv r hk => ?_
          rw [PySem.W.maxD_ints] at r
          exact ext_end ok I r hk
        · cases e
      | tuple ds =>
        simp only [itemsOf] at e
        split at e
        · rename_i n ns hi
          cases e
          obtain ⟨a, ws, rfl, q, t⟩ := dw_tup hv
          cases r1
          obtain ⟨its, rvs, pl, _⟩ := I.tuple q
          have hd := intsOf_map hi
          subst hd
          obtain ⟨as, hr⟩ := Dvs.reads I _ _ _ t rvs
          refine PySem.W.max_tuple_data (x := .int n) (xs := ns.map .int) (I.ok.hd hc) (show s.heap.IsTuple a its.toArray from pl) (by simpa using hr) (alike_ints (n :: ns)) (by have := depth_ints (n :: ns); rw [List.map_cons] at this; rw [this]; omega) fun i v h' tk bs hv r hk => ?_
          rw [PySem.W.maxD_ints] at r
          exact ext_end ok I r hk
        · cases e
      | _ => cases e
  · cases e
theorem cd_min1 {X : Cx} (hc : X.calm = true) (hu : X.A.units + 65 < cLine) : CallD X (.builtin "min") (opExt min) := by
  intro g pins s xs vs us r ok I hx rv e
  unfold opExt at e
  split at e
  · rename_i x
    obtain ⟨v, rfl, hv⟩ := dws1 hx
    cases rv with
    | cons r1 r2 =>
      cases r2
      cases x with
      | list ds =>
        simp only [itemsOf] at e
        split at e
        · rename_i n ns hi
          cases e
          obtain ⟨a, ws, rfl, q, t⟩ := dw_lst hv
          cases r1
          obtain ⟨its, rvs, pl, _⟩ := I.list q
          have hd := intsOf_map hi
          subst hd
          obtain ⟨as, hr⟩ := Dvs.reads I _ _ _ t rvs
          refine PySem.W.min_list_data (x := .int n) (xs := ns.map .int) (I.ok.hd hc) pl.isList (by simpa using hr) (alike_ints (n :: ns)) (by have := depth_ints (n :: ns); rw [List.map_cons] at this; rw [this]; omega) fun i v h' tk bs hv r hk => ?_
          rw [PySem.W.minD_ints] at r
          exact ext_end ok I r hk
        · cases e
      | tuple ds =>
        simp only [itemsOf] at e
        split at e
        · rename_i n ns hi
          cases e
          obtain ⟨a, ws, rfl, q, t⟩ := dw_tup hv
          cases r1
          obtain ⟨its, rvs, pl, _⟩ := I.tuple q
          have hd := intsOf_map hi
          subst hd
          obtain ⟨as, hr⟩ := Dvs.reads I _ _ _ t rvs
          refine PySem.W.min_tuple_data (x := .int n) (xs := ns.map .int) (I.ok.hd hc) (show s.heap.IsTuple a its.toArray from pl) (by simpa using hr) (alike_ints (n :: ns)) (by have := depth_ints (n :: ns); rw [List.map_cons] at this; rw [this]; omega) fun i v h' tk bs hv r hk => ?_
          rw [PySem.W.minD_ints] at r
          exact ext_end ok I r hk
        · cases e
      | _ => cases e
  · cases e
end BH

set_option maxRecDepth 100000
set_option maxHeartbeats 4000000
namespace BH
open PySem PySem.Spec PyProof.Rows L2

/-! ### zip of two, each a list or a tuple -/
/-- a list (false) or a tuple (true) -/
def SqK (K : PySem.W.Frag) (H : Hp) : Bool → Addr → List V → Prop
  | false, a, xs => SqL K H a xs
  | true, a, xs => SqT K H a xs
def HasK (h : Heap) : Bool → Addr → Array Value → Prop
  | false, a, its => h.IsList a its
  | true, a, its => h.IsTuple a its
def ItK (h : Heap) : Bool → Addr → Addr → Nat → Prop
  | false, i, a, n => h.IsListIter i a n
  | true, i, a, n => h.IsTupleIter i a n
theorem SqK.items {X : Cx} {pins : List (Addr × Obj)} {σ : L2.St} {H : Hp} {s : Shared} {k : Bool} {a : Addr} {xs : List V} (I : Inv X pins σ H s) (h : SqK X.K H k a xs) : ∃ its : List Value, Vals xs its ∧ HasK s.heap k a its.toArray ∧ a < s.heap.objs.size := by
  cases k with
  | false =>
    obtain ⟨its, r, p, _⟩ := I.list h
    exact ⟨its, r, p.isList, p.lt⟩
  | true =>
    obtain ⟨its, r, p, _⟩ := I.tuple h
    obtain ⟨o, e, _⟩ := id p
    exact ⟨its, r, p, Heap.lt_size e⟩
theorem SqK.inj {X : Cx} {pins : List (Addr × Obj)} {σ : L2.St} {H : Hp} {s : Shared} {k : Bool} {a : Addr} {xs ys : List V} (I : Inv X pins σ H s) (h : SqK X.K H k a xs) (h' : SqK X.K H k a ys) : xs = ys := by
  cases k with
  | false => exact I.list_inj h h'
  | true => exact I.tuple_inj h h'
theorem ItK.at {h h' : Heap} {k : Bool} {i a : Addr} {n : Nat} (x : ItK h k i a n) (e : ∀ o, h.get? i = some o → h'.get? i = some o) : ItK h' k i a n := by
  cases k with
  | false => exact Heap.IsListIter.at x e
  | true => exact Heap.IsTupleIter.at x e
theorem ItK.obj {h : Heap} {k : Bool} {i a : Addr} {n : Nat} (x : ItK h k i a n) : ∃ o, h.get? i = some o ∧ ∀ v, o.data ≠ .cell v := by
  cases k with
  | false => obtain ⟨o, e, _, d⟩ := x; exact ⟨o, e, fun v z => by rw [d] at z; cases z⟩
  | true => obtain ⟨o, e, _, d⟩ := x; exact ⟨o, e, fun v z => by rw [d] at z; cases z⟩
theorem drawsK {P : Program} {w : World} {A : Around} (hh : A.handled = none) (k : Bool) (it l : Addr) (hne : l ≠ it) (items : Array Value) : Draws P w A it [it, l] items.size (fun i v => items[i]? = some v) (fun i h => ItK h k it l i ∧ HasK h k l items) := by
  cases k with
  | false => exact Draws.list hh it l hne items
  | true => exact Draws.tuple hh it l hne items
def ItzK (K : PySem.W.Frag) (k1 k2 : Bool) (a b : Addr) : It :=
  ⟨fun i H => ∃ (xs ys : List V) (x y : V), SqK K H k1 a xs ∧ SqK K H k2 b ys ∧ xs[i]? = some x ∧ ys[i]? = some y,
    fun i H v H' => ∃ T x y, v = .ref T ∧ H T = none ∧ H' = upd H T (.tup [x, y]) ∧ (∀ xs, SqK K H k1 a xs → xs[i]? = some x) ∧ ∀ ys, SqK K H k2 b ys → ys[i]? = some y,
    fun i H => ∃ xs ys : List V, SqK K H k1 a xs ∧ SqK K H k2 b ys ∧ i ≤ xs.length ∧ i ≤ ys.length ∧ (i = xs.length ∨ i = ys.length)⟩
theorem turn_zipK {P : Program} {w : World} {K : PySem.W.Frag} {elts : List Expr} {kk : Nat} {tpos : Pos} {k1 k2 : Bool} {a b z TI TO i1 i2 : Addr} (D : ZipSep2 z TI TO i1 i2 [i1, a] [i2, b]) (hai : a ≠ i1) (hbi : b ≠ i2) :
    Turn P w K (.Tuple elts kk tpos) (ItzK K k1 k2 a b) [z, TI, TO, i1, i2] z (fun i h => IsZip h z TI TO .none ∧ IsTupOf2 h TI (.ref i1) (.ref i2) ∧ (∃ x y, IsTupOf2 h TO x y) ∧ ItK h k1 i1 a i ∧ ItK h k2 i2 b i) where
  mem := by simp
  obj := by
    rintro i h ⟨hz, hTI, ⟨x, y, hTO⟩, h1, h2⟩ c hc
    simp only [List.mem_cons, List.not_mem_nil, or_false] at hc
    rcases hc with rfl | rfl | rfl | rfl | rfl
    · exact ⟨_, hz, fun v q => nomatch q⟩
    · exact ⟨_, hTI, fun v q => nomatch q⟩
    · exact ⟨_, hTO, fun v q => nomatch q⟩
    · exact h1.obj
    · exact h2.obj
  keep := by
    rintro i h h' ⟨hz, hTI, ⟨x, y, hTO⟩, h1, h2⟩ k
    exact ⟨k z (by simp) _ hz, k TI (by simp) _ hTI, ⟨x, y, k TO (by simp) _ hTO⟩, h1.at (k i1 (by simp)), h2.at (k i2 (by simp))⟩
  item := by
    intro X hP hw hK hc i pins s σ H E I hf st hg
    subst hP hw hK
    obtain ⟨hz, hTI, ⟨x0, y0, hTO⟩, h1, h2⟩ := st
    obtain ⟨xs, ys, x, y, qx, qy, hx, hy⟩ := hg
    obtain ⟨its1, rv1, p1, _⟩ := qx.items I
    obtain ⟨its2, rv2, p2, _⟩ := qy.items I
    obtain ⟨u1, hu1, ru1⟩ := rv1.get hx
    obtain ⟨u2, hu2, ru2⟩ := rv2.get hy
    have hh : X.A.in1.handled = none := I.ok.hd hc
    have ln1 : i < its1.length := by rw [← rv1.length]; exact (List.getElem?_eq_some_iff.mp hx).1
    have ln2 : i < its2.length := by rw [← rv2.length]; exact (List.getElem?_eq_some_iff.mp hy).1
    have zlt : z < s.heap.objs.size := Heap.lt_size hz
    refine wpAny_pyNext_zipD2_item D (drawsK hh k1 i1 a hai its1.toArray) (drawsK hh k2 i2 b hbi its2.toArray) hz hTI hTO ⟨h1, p1⟩ ⟨h2, p2⟩ (by simpa using ln1) (by simpa using ln2) fun x1 x2 h' tk y1 y2 z' TO' st1 st2 hT hsz hk => ?_
    have e1 : x1 = u1 := by
      have y1 : its1.toArray[i]? = some x1 := y1
      rw [List.getElem?_toArray, hu1] at y1; exact (Option.some.inj y1).symm
    have e2 : x2 = u2 := by
      have y2 : its2.toArray[i]? = some x2 := y2
      rw [List.getElem?_toArray, hu2] at y2; exact (Option.some.inj y2).symm
    subst e1 e2
    refine ⟨_, rfl, wpAny_letOwnedTupleGo_zip (s := { s with heap := h', toks := tk }) z' fun h'' z'' sb => ?_⟩
    have made : h''.get? s.heap.objs.size = some { cls := .type "tuple", data := .seq #[x1, x2] } := (sb.2 _ (Nat.ne_of_gt zlt)).trans hT
    have new : ObjOk X.prog X.w (upd H s.heap.objs.size (.tup [x, y])) h'' s.heap.objs.size (.tup [x, y]) :=
      ⟨by show 2 ≤ sizeLine; decide, [x1, x2], .cons ru1 (.cons ru2 .nil), ⟨_, made, rfl, _, rfl⟩⟩
    have out : ∀ {c}, c ∉ [z, TI, TO, i1, i2] → c ≠ z ∧ c ≠ TO ∧ c ≠ i1 ∧ c ≠ i2 := fun {c} hc => by
      simp only [List.mem_cons, List.not_mem_nil, or_false, not_or] at hc
      exact ⟨hc.1, hc.2.2.1, hc.2.2.2.1, hc.2.2.2.2⟩
    have J : Inv X pins σ (upd H s.heap.objs.size (.tup [x, y])) { s with heap := h'', toks := tk } :=
      I.turnedNew (t' := tk) (ch := [z, TI, TO, i1, i2]) (fun c o hc q => by
        obtain ⟨n1, n2, n3, n4⟩ := out hc
        exact (sb.2 c n1).trans (hk c o n1 n2 n3 n4 q)) hf (Nat.le_refl _) new
    refine ⟨.ref s.heap.objs.size, _, J, rfl, ⟨_, x, y, rfl, I.hok.fresh (Nat.le_refl _), rfl, fun l hl => by rw [hl.inj I qx]; exact hx, fun l hl => by rw [hl.inj I qy]; exact hy⟩, ⟨z'', ?_, ⟨x1, x2, ?_⟩, ?_, ?_⟩, fun c hcm => ?_⟩
    · exact (sb.2 _ D.TIz).trans (hk _ _ D.TIz D.TITO D.TIi1 D.TIi2 hTI)
    · exact (sb.2 _ D.TOz).trans TO'
    · exact ItK.at st1.1 fun o q => (sb.2 _ (Ne.symm D.zi1)).trans q
    · exact ItK.at st2.1 fun o q => (sb.2 _ (Ne.symm D.zi2)).trans q
    · have hlt : c < s.heap.objs.size := by
        simp only [List.mem_cons, List.not_mem_nil, or_false] at hcm
        rcases hcm with q | q | q | q | q
        · rw [q]; exact zlt
        · rw [q]; exact Heap.lt_size hTI
        · rw [q]; exact Heap.lt_size hTO
        · obtain ⟨o, e, _⟩ := h1.obj; rw [q]; exact Heap.lt_size e
        · obtain ⟨o, e, _⟩ := h2.obj; rw [q]; exact Heap.lt_size e
      rw [upd_ne (Nat.ne_of_lt hlt)]
      exact (hf c hcm).1
  done := by
    intro X hP hw hK hc i pins s σ H E I hf st hg
    subst hP hw hK
    obtain ⟨hz, hTI, ⟨x0, y0, hTO⟩, h1, h2⟩ := st
    obtain ⟨xs, ys, qx, qy, l1, l2, l3⟩ := hg
    obtain ⟨its1, rv1, p1, _⟩ := qx.items I
    obtain ⟨its2, rv2, p2, _⟩ := qy.items I
    have hh : X.A.in1.handled = none := I.ok.hd hc
    have n1 := rv1.length
    have n2 := rv2.length
    refine wpAny_pyNext_zipD2_end D (drawsK hh k1 i1 a hai its1.toArray) (drawsK hh k2 i2 b hbi its2.toArray) hz hTI hTO ⟨h1, p1⟩ ⟨h2, p2⟩ (by rw [List.size_toArray]; omega) (by rw [List.size_toArray]; omega) (by rw [List.size_toArray, List.size_toArray]; omega) fun h' tk hk => ⟨rfl, I.turnedL (t' := tk) (ch := [z, TI, TO, i1, i2]) (fun c o hc q => ?_) hf⟩
    simp only [List.mem_cons, List.not_mem_nil, or_false, not_or] at hc
    exact hk c o hc.1 hc.2.2.1 hc.2.2.2.1 hc.2.2.2.2 q
  self := by
    rintro A i s Q E ⟨hz, _⟩ h
    exact wpAny_pyIter_zip hz h
theorem begins_K (k : Bool) (l : Addr) (items : Array Value) : ∃ o, (∀ h it, h.get? it = some o → ItK h k it l 0) ∧ Begins (.ref l) o fun h => HasK h k l items := by
  cases k with
  | false => exact ⟨_, fun h it e => ⟨_, e, rfl, rfl⟩, begins_list l items⟩
  | true => exact ⟨_, fun h it e => ⟨_, e, rfl, rfl⟩, begins_tuple l items⟩
def kindOf : PyData → Bool
  | .tuple _ => true
  | _ => false
theorem seq_at {K : PySem.W.Frag} {A : AS} {H : Hp} {x : PyData} {ds : List PyData} {v : V} (e : itemsOf x = some ds) (h : Dv K A H x v) : ∃ a us, v = .ref a ∧ SqK K H (kindOf x) a us ∧ Dvs K A H ds us := by
  cases x with
  | list xs =>
    cases e
    simp only [Dv] at h
    obtain ⟨a, us, rfl, l, d⟩ := h
    exact ⟨a, us, rfl, l.sq, d⟩
  | tuple xs =>
    cases e
    simp only [Dv] at h
    obtain ⟨a, us, rfl, l, d⟩ := h
    exact ⟨a, us, rfl, l, d⟩
  | _ => cases e
theorem zipK_ok {K : PySem.W.Frag} {A : AS} {H : Hp} {x1 x2 : PyData} {ds es : List PyData} {a b : Addr} (e1 : itemsOf x1 = some ds) (e2 : itemsOf x2 = some es) (h1 : Dv K A H x1 (.ref a)) (h2 : Dv K A H x2 (.ref b)) : ItOk K (fun _ => False) (ItzK K (kindOf x1) (kindOf x2) a b) (zipD ds es) A H := by
  refine ⟨fun A H => Dv K A H x1 (.ref a) ∧ Dv K A H x2 (.ref b), ⟨h1, h2⟩, fun O A H A' H' ⟨p, q⟩ e hO _ => ⟨Dv.ext e hO _ _ p, Dv.ext e hO _ _ q⟩, fun _ _ _ _ z => z.elim, fun A H ⟨p, q⟩ => ?_⟩
  obtain ⟨a', us, ea, su, du⟩ := seq_at e1 p
  obtain ⟨b', ws, eb, sw, dw⟩ := seq_at e2 q
  cases ea
  cases eb
  refine ⟨fun i x0 e => ?_, us, ws, su, sw, ?_⟩
  · unfold zipD at e
    rw [List.getElem?_zipWith] at e
    cases hd : ds[i]? with
    | none => rw [hd] at e; cases e
    | some d =>
      cases he : es[i]? with
      | none => rw [hd, he] at e; cases e
      | some d' =>
        rw [hd, he] at e
        cases e
        obtain ⟨v, f1, f2⟩ := du.getD hd
        obtain ⟨w, g1, g2⟩ := dw.getD he
        refine ⟨⟨us, ws, v, w, su, sw, f1, g1⟩, fun x H' y => ?_⟩
        obtain ⟨T, x1', y1', rfl, hT, rfl, q1, q2⟩ := y
        have q1 := q1 us su
        have q2 := q2 ws sw
        rw [f1] at q1; cases q1
        rw [g1] at q2; cases q2
        have ex : ∀ O, Ext O A H A (upd H T (.tup [v, w])) := fun O => alloc_ext hT
        refine ⟨ex, ?_⟩
        simp only [Dv]
        exact ⟨T, [v, w], rfl, .of upd_same, Dvs.cons (Dv.ext (ex (fun _ => False)) (fun _ z => z.elim) _ _ f2) (Dvs.one (Dv.ext (ex (fun _ => False)) (fun _ z => z.elim) _ _ g2))⟩
  · unfold zipD
    rw [List.length_zipWith, ← du.length, ← dw.length]
    omega
def fZipM (f : CFs) : IF := fun env => (f env).bind fun p => match p.1 with
  | [x, y] => match itemsOf x, itemsOf y with
    | some ds, some es => .ok ((zipD ds es, []), p.2)
    | _, _ => .fail
  | _ => .fail
theorem nin2 {x y z : Nat} (h1 : x ≠ y) (h2 : x ≠ z) : x ∉ [y, z] := by simp [h1, h2]
theorem zip_sep {n a b : Nat} (ha : a < n) (hb : b < n) : ZipSep2 (n + 4) (n + 2) (n + 3) n (n + 1) [n, a] [n + 1, b] where
  TIz := (show (n + 2 : Nat) ≠ n + 4 by omega)
  TOz := (show (n + 3 : Nat) ≠ n + 4 by omega)
  TITO := (show (n + 2 : Nat) ≠ n + 3 by omega)
  TIi1 := (show (n + 2 : Nat) ≠ n by omega)
  mem1 := List.mem_cons_self
  zf1 := nin2 (show (n + 4 : Nat) ≠ n by omega) (show (n + 4 : Nat) ≠ a by omega)
  Tf1 := nin2 (show (n + 3 : Nat) ≠ n by omega) (show (n + 3 : Nat) ≠ a by omega)
  TIi2 := (show (n + 2 : Nat) ≠ n + 1 by omega)
  mem2 := List.mem_cons_self
  zf2 := nin2 (show (n + 4 : Nat) ≠ n + 1 by omega) (show (n + 4 : Nat) ≠ b by omega)
  Tf2 := nin2 (show (n + 3 : Nat) ≠ n + 1 by omega) (show (n + 3 : Nat) ≠ b by omega)
  sep1_2 := nin2 (show (n : Nat) ≠ n + 1 by omega) (show (n : Nat) ≠ b by omega)
  sep2_1 := nin2 (show (n + 1 : Nat) ≠ n by omega) (show (n + 1 : Nat) ≠ a by omega)
theorem fi_zipM {X : Cx} {a b : Expr} {f : CFs} {p pos tpos : Pos} {elts : List Expr} {kk : Nat} (hg : Gl X "zip") (hm : X.mg "zip" = none) (ha : FCs X [a, b] f)
    (hs : starEach [a, b] X.env = (false, eval a X.env) :: starEach [b] X.env := by rfl) (hpl : (backTo pos (starEach [b] X.env)).any (·.1) = false := by rfl) : FI X (.Tuple elts kk tpos) (.Call (.Name "zip" p) [a, b] [] pos) (fZipM f) := by
  refine ⟨fun W tk => ⟨fun pins s σ H R I hq => ?_⟩⟩
  obtain ⟨g, rfl, rfl, ok, o⟩ := hq
  refine Call_ (ld_blt I hg hm PyProof.Rows.boot_zip (PyProof.Rows.callWith_type1 (ha.go tk ok I o.bind0 fun us s1 g1 xs vs e1 I1 r o1 st dv q => ?_) hs hpl))
  split at q
  · rename_i x y hx
    change xs = [x, y] at hx
    subst hx
    split at q
    · rename_i ds es h1 h2
      simp only [Dvs] at dv
      obtain ⟨v1, _, rfl, d1, v2, _, rfl, d2, rfl⟩ := dv
      obtain ⟨a', us1, rfl, su, du⟩ := seq_at h1 d1
      obtain ⟨b', us2, rfl, sw, dw⟩ := seq_at h2 d2
      cases r with
      | cons r1 rr =>
        cases rr with
        | cons r2 rr =>
          cases rr
          cases r1
          cases r2
          obtain ⟨its1, rv1, p1, lt1⟩ := su.items I1
          obtain ⟨its2, rv2, p2, lt2⟩ := sw.items I1
          obtain ⟨ob1, k1, B1⟩ := begins_K (kindOf x) a' its1.toArray
          obtain ⟨ob2, k2, B2⟩ := begins_K (kindOf y) b' its2.toArray
          refine zip_begins2 B1 B2 p1 p2 fun h' hz hTI hTO g1' g2' hsz hk => wpAny_pyIter_zip hz ?_
          have J : Inv X pins g1.st g1.H { s1 with heap := h' } := I1.kept (t' := s1.toks) hk
          refine ⟨s1.heap.objs.size + 4, [s1.heap.objs.size + 4, s1.heap.objs.size + 2, s1.heap.objs.size + 3, s1.heap.objs.size, s1.heap.objs.size + 1], _, _, g1.H, rfl, by rw [← e1]; exact J, turn_zipK (zip_sep lt1 lt2) (Nat.ne_of_lt lt1) (Nat.ne_of_lt (Nat.lt_succ_of_lt lt2)), ⟨hz, hTI, ⟨_, _, hTO⟩, k1 _ _ g1', k2 _ _ g2'⟩, fun c hc => ?_, q g1 rfl e1 st o1 _ (fun _ => False) (fun _ z => z.elim) (zipK_ok h1 h2 d1 d2)⟩
          have hle : s1.heap.objs.size ≤ c := by
            simp only [List.mem_cons, List.not_mem_nil, or_false] at hc
            rcases hc with z | z | z | z | z
            · rw [z]; exact Nat.le_add_right _ _
            · rw [z]; exact Nat.le_add_right _ _
            · rw [z]; exact Nat.le_add_right _ _
            · rw [z]; exact Nat.le_refl _
            · rw [z]; exact Nat.le_add_right _ _
          exact I1.fpOk hle (I1.hok.fresh hle)
    · exact q.elim
  · exact q.elim
end BH

set_option maxRecDepth 100000
set_option maxHeartbeats 4000000
namespace BH
open PySem PySem.Spec PyProof.Rows L2

/-! ### an own list is lent as data, for one expression -/
mutual
def noList : PyData → Bool
  | .none => true
  | .bool _ => true
  | .int _ => true
  | .str _ => true
  | .tuple xs => noLists xs
  | .list _ => false
  | .dict _ => false
def noLists : List PyData → Bool
  | [] => true
  | x :: xs => noList x && noLists xs
end
def noListO : Option MV → Bool
  | none => true
  | some (.d x) => noList x
  | some (.cell _ (.lst xs)) => noLists xs
  | _ => false
def noListE (env : SE) : Bool := env.all noListO
mutual
theorem dv_noList {K : PySem.W.Frag} {A A' : AS} {H : Hp} : ∀ (x : PyData) (v : V), noList x = true → Dv K A H x v → Dv K A' H x v
  | .none, v, _, h => by simp only [Dv] at h ⊢; exact h
  | .bool _, v, _, h => by simp only [Dv] at h ⊢; exact h
  | .int _, v, _, h => by simp only [Dv] at h ⊢; exact h
  | .str _, v, _, h => by simp only [Dv] at h ⊢; exact h
  | .tuple xs, v, f, h => by
    simp only [noList] at f
    simp only [Dv] at h ⊢
    obtain ⟨a, vs, e, q, d⟩ := h
    exact ⟨a, vs, e, q, dvs_noList xs vs f d⟩
  | .list _, v, f, _ => by simp [noList] at f
  | .dict _, v, f, _ => by simp [noList] at f
theorem dvs_noList {K : PySem.W.Frag} {A A' : AS} {H : Hp} : ∀ (xs : List PyData) (vs : List V), noLists xs = true → Dvs K A H xs vs → Dvs K A' H xs vs
  | [], vs, _, h => by simp only [Dvs] at h ⊢; exact h
  | x :: xs, vs, f, h => by
    simp only [noLists, Bool.and_eq_true] at f
    simp only [Dvs] at h ⊢
    obtain ⟨v, t, e, h1, h2⟩ := h
    exact ⟨v, t, e, dv_noList x v f.1 h1, dvs_noList xs t f.2 h2⟩
end
def lendG (g : G) (i : Nat) (a : Addr) (xs : List PyData) : G := { g with A := fun b => g.A b ∧ b ≠ a, env := g.env.set i (some (.d (.list xs))) }
section
variable {K : PySem.W.Frag} {g g' : G} {i : Nat} {a : Addr} {xs : List PyData}
theorem lend_get {j : Nat} {mv : MV} (hi : i < g.env.length) (h : (lendG g i a xs).env[j]? = some (some mv)) : (j = i ∧ mv = .d (.list xs)) ∨ (j ≠ i ∧ g.env[j]? = some (some mv)) := by
  have h : (g.env.set i (some (.d (.list xs))))[j]? = some (some mv) := h
  by_cases e : j = i
  · subst e
    rw [List.getElem?_set_self hi] at h
    simp only [Option.some.injEq] at h
    exact .inl ⟨rfl, h.symm⟩
  · rw [List.getElem?_set_ne (Ne.symm e)] at h
    exact .inr ⟨e, h⟩
theorem lend_ok (ok : g.Ok K) (hi : g.env[i]? = some (some (.cell .own (.lst xs)))) (ha : g.st[i]? = some (some (.ref a))) : (lendG g i a xs).Ok K := by
  have hil := (List.getElem?_eq_some_iff.mp hi).1
  have less : ∀ b, (lendG g i a xs).A b → g.A b := fun b h => h.1
  obtain ⟨a', e1, e2, vs, e3, e4⟩ := ok.cel i _ _ hi
  rw [ha] at e1; cases e1
  refine ⟨?_, fun j x h => ?_, fun j m c h => ?_, fun j k m c m' c' b hj hk q1 q2 => ?_, fun b hb => ok.dom b hb.1⟩
  · show g.st.length = (g.env.set i _).length
    rw [List.length_set]; exact ok.len
  · rcases lend_get hil h with ⟨e, h⟩ | ⟨e, h⟩
    · cases h; subst e
      refine ⟨.ref a, ha, ?_⟩
      simp only [Dv]
      exact ⟨a, vs, rfl, .inl ⟨fun z => z.2 rfl, .inl e3⟩, Dvs.less less xs vs e4⟩
    · obtain ⟨v, h1, h2⟩ := ok.dat j x h
      exact ⟨v, h1, Dv.less less x v h2⟩
  · rcases lend_get hil h with ⟨e, h⟩ | ⟨e, h⟩
    · cases h
    · obtain ⟨b, h1, h2, h3⟩ := ok.cel j m c h
      have ba : b ≠ a := fun z => e (ok.dis j i _ _ _ _ a h hi (by rw [← z]; exact h1) ha)
      refine ⟨b, h1, ⟨h2, ba⟩, ?_⟩
      cases c with
      | lst ys => obtain ⟨us, q, r⟩ := h3; exact ⟨us, q, Dvs.less less ys us r⟩
      | _ => exact h3.elim
  · rcases lend_get hil hj with ⟨_, hj⟩ | ⟨_, hj⟩
    · cases hj
    · rcases lend_get hil hk with ⟨_, hk⟩ | ⟨_, hk⟩
      · cases hk
      · exact ok.dis j k m c m' c' b hj hk q1 q2
theorem lend_back (ok : g.Ok K) (hi : g.env[i]? = some (some (.cell .own (.lst xs)))) (ha : g.st[i]? = some (some (.ref a))) (s : Stp (lendG g i a xs) g') (ok' : g'.Ok K) (es : g'.st = g.st) (nl : noListE (g'.env.set i none) = true) (hl : i < g'.env.length) :
    Stp g { g' with A := fun b => g'.A b ∨ b = a, env := g'.env.set i (some (.cell .own (.lst xs))) } ∧ ({ g' with A := fun b => g'.A b ∨ b = a, env := g'.env.set i (some (.cell .own (.lst xs))) } : G).Ok K := by
  have hil := (List.getElem?_eq_some_iff.mp hi).1
  obtain ⟨a', e1, e2, vs, e3, e4⟩ := ok.cel i _ _ hi
  rw [ha] at e1; cases e1
  have oa : Own g a := ⟨i, .own, _, hi, by simp, ha⟩
  have na' : ¬ g'.A a := fun z => by
    rcases s.ext.av2 a z with y | y
    · exact y.2 rfl
    · rw [show (lendG g i a xs).H a = some (.lst vs) from e3] at y; cases y
  have ownf : ∀ b, Own (lendG g i a xs) b → Own g b := fun b ⟨j, m, c, h1, h2, h3⟩ => by
    rcases lend_get hil h1 with ⟨_, h⟩ | ⟨_, h⟩
    · cases h
    · exact ⟨j, m, c, h, h2, h3⟩
  have hasf : ∀ b, Has (lendG g i a xs) b → Has g b := fun b ⟨j, m, c, h1, h3⟩ => by
    rcases lend_get hil h1 with ⟨_, h⟩ | ⟨_, h⟩
    · cases h
    · exact ⟨j, m, c, h, h3⟩
  have nown : ¬ Own (lendG g i a xs) a := fun ⟨j, m, c, h1, h2, h3⟩ => by
    rcases lend_get hil h1 with ⟨_, h⟩ | ⟨e, h⟩
    · cases h
    · exact e (ok.dis j i _ _ _ _ a h hi h3 ha)
  have hk : g'.H a = some (.lst vs) := s.ext.keep a _ e3 nown
  have e : Ext (Own (lendG g i a xs)) g.A g.H (fun b => g'.A b ∨ b = a) g'.H :=
    ⟨s.ext.keep, s.ext.tup, s.ext.frz, s.ext.dom, fun b h n => by
      by_cases z : b = a
      · exact .inr z
      · exact .inl (s.ext.av1 b ⟨h, z⟩ n), fun b h => by
      rcases h with h | h
      · exact (s.ext.av2 b h).imp (fun y => y.1) id
      · exact .inl (by rw [h]; exact e2)⟩
  have sub : ∀ b, Own (lendG g i a xs) b → g.A b := fun b z => Own.sub ok b (ownf b z)
  have get : ∀ {j : Nat} {mv : MV}, (g'.env.set i (some (.cell .own (.lst xs))))[j]? = some (some mv) → (j = i ∧ mv = .cell .own (.lst xs)) ∨ (j ≠ i ∧ g'.env[j]? = some (some mv) ∧ noListO (some mv) = true) := fun {j mv} h => by
    by_cases z : j = i
    · subst z
      rw [List.getElem?_set_self hl] at h
      simp only [Option.some.injEq] at h
      exact .inl ⟨rfl, h.symm⟩
    · rw [List.getElem?_set_ne (Ne.symm z)] at h
      refine .inr ⟨z, h, List.all_eq_true.mp nl _ (List.mem_of_getElem? (i := j) ?_)⟩
      rw [List.getElem?_set_ne (Ne.symm z)]; exact h
  refine ⟨⟨⟨fun b o h n => s.ext.keep b o h fun z => n (ownf b z), s.ext.tup, s.ext.frz, s.ext.dom, fun b h n => e.av1 b h fun z => n (ownf b z), e.av2⟩, fun b h => ?_, fun b h => ?_, fun j c h => ?_, fun j c h => ?_⟩, ⟨?_, fun j x h => ?_, fun j m c h => ?_, fun j k m c m' c' b hj hk' q1 q2 => ?_, fun b h => ?_⟩⟩
  · obtain ⟨j, m, c, h1, h2, h3⟩ := h
    have h3 : g'.st[j]? = _ := h3
    rcases get h1 with ⟨z, h⟩ | ⟨z, h, _⟩
    · subst z
      rw [es, ha] at h3; cases h3
      exact .inl oa
    · exact (s.own b ⟨j, m, c, h, h2, h3⟩).imp (ownf b) id
  · obtain ⟨j, m, c, h1, h3⟩ := h
    have h3 : g'.st[j]? = _ := h3
    rcases get h1 with ⟨z, h⟩ | ⟨z, h, _⟩
    · subst z
      rw [es, ha] at h3; cases h3
      exact .inl ⟨j, _, _, hi, ha⟩
    · exact (s.has b ⟨j, m, c, h, h3⟩).imp (hasf b) id
  · have z : j ≠ i := by rintro rfl; rw [hi] at h; cases h
    obtain ⟨y1, c', y2⟩ := s.bor j c (by show (g.env.set i _)[j]? = _; rw [List.getElem?_set_ne (Ne.symm z)]; exact h)
    exact ⟨y1, c', by show (g'.env.set i _)[j]? = _; rw [List.getElem?_set_ne (Ne.symm z)]; exact y2⟩
  · have z : j ≠ i := by rintro rfl; rw [hi] at h; cases h
    obtain ⟨y1, y2⟩ := s.lck j c (by show (g.env.set i _)[j]? = _; rw [List.getElem?_set_ne (Ne.symm z)]; exact h)
    exact ⟨y1, by show (g'.env.set i _)[j]? = _; rw [List.getElem?_set_ne (Ne.symm z)]; exact y2⟩
  · show g'.st.length = (g'.env.set i _).length
    rw [List.length_set]; exact ok'.len
  · rcases get h with ⟨z, h⟩ | ⟨z, h, f⟩
    · cases h
    · obtain ⟨v, h1, h2⟩ := ok'.dat j x h
      exact ⟨v, h1, dv_noList x v f h2⟩
  · rcases get h with ⟨z, h⟩ | ⟨z, h, f⟩
    · cases h; subst z
      exact ⟨a, by show g'.st[j]? = _; rw [es]; exact ha, .inr rfl, vs, hk, Dvs.ext e sub xs vs e4⟩
    · obtain ⟨b, h1, h2, h3⟩ := ok'.cel j m c h
      refine ⟨b, h1, .inl h2, ?_⟩
      cases c with
      | lst ys => obtain ⟨us, q, r⟩ := h3; exact ⟨us, q, dvs_noList ys us f r⟩
      | _ => exact h3.elim
  · have q1 : g'.st[j]? = _ := q1
    have q2 : g'.st[k]? = _ := q2
    have far : ∀ {l : Nat} {m : Mode} {c : Cell}, g'.env[l]? = some (some (.cell m c)) → g'.st[l]? = some (some (.ref a)) → False := fun {l m c} h h2 => by
      obtain ⟨b, w1, w2, _⟩ := ok'.cel l m c h
      rw [h2] at w1; cases w1
      exact na' w2
    rcases get hj with ⟨z1, hj⟩ | ⟨z1, hj, _⟩ <;> rcases get hk' with ⟨z2, hk'⟩ | ⟨z2, hk', _⟩
    · rw [z1, z2]
    · rw [z1, es, ha] at q1; cases q1
      exact (far hk' q2).elim
    · rw [z2, es, ha] at q2; cases q2
      exact (far hj q1).elim
    · exact ok'.dis j k m c m' c' b hj hk' q1 q2
  · rcases h with h | h
    · exact ok'.dom b h
    · rw [h]; show g'.H a ≠ none; rw [hk]; simp
end
/-- a test over a list that is lent -/
def fLendT (i : Nat) (f : TF) : TF := fun env => match env[i]? with
  | some (some (.cell .own (.lst xs))) => match f (env.set i (some (.d (.list xs)))) with
    | .ok (b, e) => if (noListE (e.set i none) = true ∧ i < e.length) then .ok (b, e.set i (some (.cell .own (.lst xs)))) else .fail
    | _ => .fail
  | _ => .fail
theorem ft_lend {X : Cx} {e : Expr} {f : TF} (i : Nat) (h : FT X e f) : FT X e (fLendT i f) := by
  refine ⟨fun W tk => ⟨fun pins s σ H Q I hq => ?_⟩⟩
  obtain ⟨g, rfl, rfl, ok, o⟩ := hq
  unfold fLendT at o
  split at o
  · rename_i xs hi
    obtain ⟨a, ha, hA, hc⟩ := ok.cel i _ _ hi
    refine (h.pt W tk).run pins s g.st g.H Q I ⟨lendG g i a xs, rfl, rfl, lend_ok ok hi ha, ?_⟩
    show Out X W (lendG g i a xs) (f (g.env.set i (some (.d (.list xs))))) _
    cases hf : f (g.env.set i (some (.d (.list xs)))) with
    | ok y =>
      obtain ⟨b, e'⟩ := y
      rw [hf] at o
      simp only at o
      split at o
      · rename_i hc
        intro g' e1 e2 s' ok'
        have e2 : g'.st = g.st := e2
        obtain ⟨s3, o3⟩ := lend_back ok hi ha s' ok' e2 (by rw [e1]; exact hc.1) (by rw [e1]; exact hc.2)
        exact o { g' with A := fun b => g'.A b ∨ b = a, env := g'.env.set i (some (.cell .own (.lst xs))) } (by show g'.env.set i _ = _; rw [e1]) e2 s3 o3
      · exact o.elim
    | exc c fs env' => rw [hf] at o; exact o.elim
    | fail => rw [hf] at o; exact o.elim
  · exact o.elim
/-- .. a value without lists over it -/
def fLend (i : Nat) (f : EF) : EF := fun env => match env[i]? with
  | some (some (.cell .own (.lst xs))) => match f (env.set i (some (.d (.list xs)))) with
    | .ok (.d x, e) => if noList x = true ∧ noListE (e.set i none) = true ∧ i < e.length then .ok (.d x, e.set i (some (.cell .own (.lst xs)))) else .fail
    | _ => .fail
  | _ => .fail
theorem fe_lend {X : Cx} {e : Expr} {f : EF} (i : Nat) (h : FE X e f) : FE X e (fLend i f) := by
  refine ⟨fun W tk => ⟨fun pins s σ H Q I hq => ?_⟩⟩
  obtain ⟨g, rfl, rfl, ok, o⟩ := hq
  unfold fLend at o
  split at o
  · rename_i xs hi
    obtain ⟨a, ha, hA, hc⟩ := ok.cel i _ _ hi
    refine (h.pe W tk).run pins s g.st g.H Q I ⟨lendG g i a xs, rfl, rfl, lend_ok ok hi ha, ?_⟩
    show Out X W (lendG g i a xs) (f (g.env.set i (some (.d (.list xs))))) _
    cases hf : f (g.env.set i (some (.d (.list xs)))) with
    | ok y =>
      obtain ⟨r, e'⟩ := y
      rw [hf] at o
      cases r with
      | d x =>
        simp only at o
        split at o
        · rename_i hc
          intro g' e1 e2 s' ok' v rr
          have e2 : g'.st = g.st := e2
          have rr : Dv X.K g'.A g'.H x v := rr
          obtain ⟨s3, o3⟩ := lend_back ok hi ha s' ok' e2 (by rw [e1]; exact hc.2.1) (by rw [e1]; exact hc.2.2)
          exact o { g' with A := fun b => g'.A b ∨ b = a, env := g'.env.set i (some (.cell .own (.lst xs))) } (by show g'.env.set i _ = _; rw [e1]) e2 s3 o3 v (dv_noList x v hc.1 rr)
        · exact o.elim
      | tmp c => exact o.elim
      | slot j => exact o.elim
    | exc c fs env' => rw [hf] at o; exact o.elim
    | fail => rw [hf] at o; exact o.elim
  · exact o.elim
end BH

namespace BH
open PySem PySem.Spec PyProof.Rows L2
def fuel_law_heap1 (env : SE) : Nat := 1000
def fuel_law_lot1 (env : SE) : Nat := 1000
end BH

set_option maxRecDepth 100000
set_option maxHeartbeats 2000000
namespace BH
open PySem PySem.Spec PyProof.Rows L2
/-! ### an own list that no one changes any more becomes data -/
def fFrzS (i : Nat) (f : SF) : SF := fun env => (f env).bind fun p => match p.1 with
  | .nx => match (RV.slot i).take p.2 with
    | some q => .ok (.nx, q.2)
    | none => .fail
  | _ => .ok p
theorem fs_frz {X : Cx} {st : Stmt} {f : SF} (i : Nat) (h : FS X st f) : FS X st (fFrzS i f) := by
  refine ⟨fun W tk hp => ⟨fun pins s σ H D I hq => ?_⟩⟩
  obtain ⟨g, rfl, rfl, ok, o⟩ := hq
  refine (h.ps W tk hp).run pins s g.st g.H D I ⟨g, rfl, rfl, ok, ?_⟩
  unfold fFrzS at o
  cases hf : f g.env with
  | fail => rw [hf] at o; exact o
  | exc c fs e => rw [hf] at o; exact o
  | ok p =>
    rw [hf] at o
    obtain ⟨fl, e⟩ := p
    cases fl with
    | bk => exact o
    | ct => exact o
    | rt r => exact o
    | nx =>
      simp only [Res.bind] at o
      cases ht : (RV.slot i).take e with
      | none => rw [ht] at o; exact o.elim
      | some q =>
        obtain ⟨x, e2⟩ := q
        rw [ht] at o
        intro g1 he st1 ok1
        subst he
        have hv : ∃ v, g1.st[i]? = some (some v) := by
          cases h2 : g1.env[i]? with
          | none => simp [RV.take, h2] at ht
          | some ov =>
            cases ov with
            | none => simp [RV.take, h2] at ht
            | some mv =>
              cases mv with
              | d y => obtain ⟨v, q, _⟩ := ok1.dat i y h2; exact ⟨v, q⟩
              | cell m c => obtain ⟨a, q, _⟩ := ok1.cel i m c h2; exact ⟨_, q⟩
        obtain ⟨v, hv⟩ := hv
        have rr : RVR X.K g1.H g1 (.slot i) v := hv
        obtain ⟨g2, k1, k2, k3, k4, k5, _⟩ := rr.take ok1 (Stp.refl g1) rfl ok1 ht
        have := o g2 k1 (Stp.trans ok st1 k4) k5
        rw [k2, k3] at this
        exact this
end BH

set_option maxRecDepth 100000
set_option maxHeartbeats 2000000
namespace BH
open PySem PySem.Spec PyProof.Rows L2
/-! ### repr of anything -/
def reprOk (d : PyData) : Prop := d.showable = true ∧ d.hasDict = false ∧ d.depth ≤ 60 ∧ d.shown.length ≤ lim
instance (d : PyData) : Decidable (reprOk d) := by unfold reprOk; exact inferInstance
def opReprA : List PyData → Option RV
  | [d] => if reprOk d then some (.d (.str d.shown)) else none
  | _ => none
theorem cd_reprA {X : Cx} (hg : X.A.guards = some []) (hu : X.A.units + 65 < cLine) : CallD X (.builtin "repr") opReprA := by
  intro g pins s xs vs us r ok I hx rv e
  have core : ∀ (d : PyData) (a : Addr) (u : Value), Dw X.K g.A g.H d (.ref a) → RelV (.ref a) u → reprOk d → wpAny (model X.prog X.w) X.A (call (.builtin "repr") [u]) (OpQ X pins g (.d (.str d.shown))) X.xe s := by
    rintro d a u hd ru ⟨q1, q2, q3, q4⟩
    cases ru
    obtain ⟨as, rd⟩ := hd.reads I (show RelV (.ref a) (.ref a) from rfl)
    refine PySem.repr_of_reads' rd q1 (PyData.noDict_hsm q2) hg (by omega) (fun _ _ e => e) (fun h' u tk hk => ?_) (by rw [← lim_line]; exact q4)
    exact ⟨.str d.shown, g, rfl, rfl, I.kept (t' := tk) hk, ⟨u, rfl⟩, .refl g, ok, by show Dv _ _ _ _ _; simp only [Dv]⟩
  have fin : ∀ (x : Str) (t : Tok), OpQ X pins g (.d (.str x)) (.str x t) { s with toks := s.toks + 1 } := fun x t => ⟨.str x, g, rfl, rfl, I.kept (t' := s.toks + 1) fun _ _ e => e, ⟨t, rfl⟩, .refl g, ok, by show Dv _ _ _ _ _; simp only [Dv]⟩
  unfold opReprA at e
  split at e
  · rename_i d
    split at e
    · rename_i h
      cases e
      obtain ⟨v, rfl, hd⟩ := dws1 hx
      cases rv with
      | cons r1 r2 =>
        cases r2
        cases d with
        | none =>
          have q : v = .non := by simpa [Dw, Dv] using hd
          subst q
          cases r1
          refine PySem.P.repr_of_none ?_
          have := fin (PyData.none.shown) s.toks
          simpa only [PyData.shown] using this
        | bool b =>
          have q : v = .bl b := by simpa [Dw, Dv] using hd
          subst q
          cases r1
          refine PySem.P.repr_of_bool ?_
          have := fin ((PyData.bool b).shown) s.toks
          simpa only [PyData.shown] using this
        | int i =>
          obtain rfl := dw_int hd
          obtain ⟨t, rfl⟩ := r1
          have q : i.natAbs.log2 < 1920 := by simpa [PyData.showable] using h.1
          refine PySem.P.repr_of_int q ?_
          have := fin ((PyData.int i).shown) s.toks
          simpa only [PyData.shown] using this
        | str x =>
          have q : v = .str x := by simpa [Dw, Dv] using hd
          subst q
          obtain ⟨t, rfl⟩ := r1
          have q4 := h.2.2.2
          simp only [PyData.shown] at q4
          refine PySem.P.repr_of_str ?_ (by rw [← lim_line]; exact q4)
          have := fin ((PyData.str x).shown) s.toks
          simpa only [PyData.shown] using this
        | list ds =>
          obtain ⟨a, ws, rfl, q⟩ := dw_lst hd
          exact core _ a _ hd r1 h
        | tuple ds =>
          obtain ⟨a, ws, rfl, q⟩ := dw_tup hd
          exact core _ a _ hd r1 h
        | dict kvs => exact absurd h.2.1 (by simp [PyData.hasDict])
    · cases e
  · cases e
end BH

set_option maxRecDepth 100000
set_option maxHeartbeats 4000000
namespace BH
open PySem PySem.Spec PyProof.Rows L2
/-! ### enumerate of a list or a tuple -/
def IteK (K : PySem.W.Frag) (k : Bool) (a : Addr) : It :=
  ⟨fun i H => ∃ (xs : List V) (x : V), SqK K H k a xs ∧ xs[i]? = some x,
    fun i H v H' => ∃ T x, v = .ref T ∧ H T = none ∧ H' = upd H T (.tup [.int (i : Nat), x]) ∧ ∀ xs, SqK K H k a xs → xs[i]? = some x,
    fun i H => ∃ xs : List V, SqK K H k a xs ∧ i = xs.length⟩
theorem turn_enumK {P : Program} {w : World} {K : PySem.W.Frag} {elts : List Expr} {kk : Nat} {tpos : Pos} {k : Bool} {a e it : Addr} (hai : a ≠ it) (hae : a ≠ e) :
    Turn P w K (.Tuple elts kk tpos) (IteK K k a) [e, it] e (fun i h => (∃ old, IsEnum h e it ((i : Nat) : Int) old) ∧ ItK h k it a i ∧ e ≠ it) where
  mem := by simp
  obj := fun i h st b hb => by
    obtain ⟨⟨old, he⟩, h1, _⟩ := st
    have e' : b = e ∨ b = it := by simpa using hb
    rcases e' with z | z
    · rw [z]; exact ⟨_, he, fun v q => nomatch q⟩
    · rw [z]; exact h1.obj
  keep := fun i h h' st k => let ⟨⟨old, he⟩, hi, hne⟩ := st; ⟨⟨old, k e (by simp) _ he⟩, hi.at (k it (by simp)), hne⟩
  item := by
    intro X hP hw hK hc i pins s σ H E I hf st hg
    subst hP hw hK
    obtain ⟨⟨old, he⟩, hit, hne⟩ := st
    obtain ⟨xs, x, hq, hx⟩ := hg
    obtain ⟨its, rv, p, _⟩ := hq.items I
    obtain ⟨u, hu, ru⟩ := rv.get hx
    have hel : e < s.heap.objs.size := Heap.lt_size he
    have hh : X.A.in1.handled = none := I.ok.hd hc
    have ln : i < its.length := by rw [← rv.length]; exact (List.getElem?_eq_some_iff.mp hx).1
    refine wpAny_pyNext_enum_itemD (drawsK hh k it a hai its.toArray) he ⟨hit, p⟩ (by simpa using ln) hne (by simp [hne, Ne.symm hae]) fun x1 h' tk y1 ho st1 hT hsz hk => ?_
    have e1 : x1 = u := by
      have y1 : its.toArray[i]? = some x1 := y1
      rw [List.getElem?_toArray, hu] at y1; exact (Option.some.inj y1).symm
    subst e1
    refine ⟨_, rfl, wpAny_letOwnedTupleGo_enum (s := { s with heap := h', toks := tk + 1 }) ho fun h'' he' sb => ?_⟩
    have hT2 : h''.get? s.heap.objs.size = some { cls := .type "tuple", data := .seq #[.int i tk, x1] } := (sb.2 _ (Nat.ne_of_gt hel)).trans hT
    have new : ObjOk X.prog X.w (upd H s.heap.objs.size (.tup [.int (i : Nat), x])) h'' s.heap.objs.size (.tup [.int (i : Nat), x]) :=
      ⟨by show 2 ≤ sizeLine; decide, [.int i tk, x1], .cons ⟨_, rfl⟩ (.cons ru .nil), ⟨_, hT2, rfl, _, rfl⟩⟩
    have I1 : Inv X pins σ (upd H s.heap.objs.size (.tup [.int (i : Nat), x])) { s with heap := h'', toks := tk + 1 } :=
      I.turnedNew (t' := tk + 1) (ch := [e, it]) (fun b ob hb q => (sb.2 b (fun z => hb (by simp [z]))).trans (hk b ob (fun z => hb (by simp [z])) (fun z => hb (by simp [z])) q)) hf (Nat.le_refl _) new
    refine ⟨.ref s.heap.objs.size, _, I1, rfl, ⟨_, x, rfl, I.hok.fresh (Nat.le_refl _), rfl, fun ys hy => by rw [hy.inj I hq]; exact hx⟩, ⟨⟨x1, ?_⟩, ItK.at st1.1 fun o q => (sb.2 it (Ne.symm hne)).trans q, hne⟩, fun b hb => ?_⟩
    · have e1 : ((i + 1 : Nat) : Int) = (i : Int) + 1 := by omega
      rw [e1]; exact he'
    · have hb' : b < s.heap.objs.size := by
        have e' : b = e ∨ b = it := by simpa using hb
        rcases e' with z | z
        · rw [z]; exact hel
        · obtain ⟨o, e2, _⟩ := hit.obj; rw [z]; exact Heap.lt_size e2
      rw [upd_ne (Nat.ne_of_lt hb')]
      exact (hf b hb).1
  done := by
    intro X hP hw hK hc i pins s σ H E I hf st hg
    subst hP hw hK
    obtain ⟨⟨old, he⟩, hit, hne⟩ := st
    obtain ⟨xs, hq, hx⟩ := hg
    obtain ⟨its, rv, p, hz⟩ := hq.items I
    obtain ⟨f0, f1, f2, f3, f4, f5⟩ := hf it (by simp)
    have hl := rv.length
    have hh : X.A.in1.handled = none := I.ok.hd hc
    have hi : i = its.toArray.size := by rw [List.size_toArray]; omega
    subst hi
    exact wpAny_pyNext_enum_endD (drawsK hh k it a hai its.toArray) he ⟨hit, p⟩ fun h' eb => ⟨rfl, I.turned (t' := s.toks) (fun b o hb q => eb b o hb q) f0 f1 f3 f4 f5⟩
  self := fun A i s Q E st h => let ⟨⟨_, he⟩, _⟩ := st; wpAny_pyIter_enum he h
def enumD (ds : List PyData) : List PyData := zipD (rangeD 0 ds.length) ds
theorem enumD_get (ds : List PyData) (i : Nat) : (enumD ds)[i]? = (ds[i]?).map fun d => .tuple [.int (i : Nat), d] := by
  unfold enumD zipD rangeD
  rw [List.getElem?_zipWith]
  by_cases h : i < ds.length
  · simp [h]
  · have : ds[i]? = none := List.getElem?_eq_none_iff.mpr (by omega)
    rw [this]
    cases (List.map (fun i => PyData.int (0 + ((i : Nat) : Int))) (List.range ds.length))[i]? <;> rfl
theorem enumD_len (ds : List PyData) : (enumD ds).length = ds.length := by simp [enumD, zipD, rangeD]
theorem enumK_ok {K : PySem.W.Frag} {A : AS} {H : Hp} {x1 : PyData} {ds : List PyData} {a : Addr} (e1 : itemsOf x1 = some ds) (h1 : Dv K A H x1 (.ref a)) : ItOk K (fun _ => False) (IteK K (kindOf x1) a) (enumD ds) A H := by
  refine ⟨fun A H => Dv K A H x1 (.ref a), h1, fun O A H A' H' p e hO _ => Dv.ext e hO _ _ p, fun _ _ _ _ z => z.elim, fun A H p => ?_⟩
  obtain ⟨a', us, ea, su, du⟩ := seq_at e1 p
  cases ea
  refine ⟨fun i x0 e => ?_, us, su, ?_⟩
  · rw [enumD_get] at e
    cases hd : ds[i]? with
    | none => rw [hd] at e; cases e
    | some d =>
      rw [hd] at e
      cases e
      obtain ⟨v, f1, f2⟩ := du.getD hd
      refine ⟨⟨us, v, su, f1⟩, fun x H' y => ?_⟩
      obtain ⟨T, x1', rfl, hT, rfl, q1⟩ := y
      have q1 := q1 us su
      rw [f1] at q1; cases q1
      have ex : ∀ O, Ext O A H A (upd H T (.tup [.int (i : Nat), v])) := fun O => alloc_ext hT
      refine ⟨ex, ?_⟩
      simp only [Dv]
      exact ⟨T, [.int (i : Nat), v], rfl, .of upd_same, Dvs.cons (by simp only [Dv]) (Dvs.one (Dv.ext (ex (fun _ => False)) (fun _ z => z.elim) _ _ f2))⟩
  · rw [enumD_len, du.length]
def fEnum (f : CFs) : IF := fun env => (f env).bind fun p => match p.1 with
  | [x] => match itemsOf x with
    | some ds => .ok ((enumD ds, []), p.2)
    | none => .fail
  | _ => .fail
set_option maxHeartbeats 1000000 in
theorem meets_enumerate_newB1 {v : Value} {o : Obj} {H : Heap → Prop} (B : Begins v o H) :
    Meets (Builtin.«enumerate.__new__» ⟨[.type "enumerate", v], []⟩) (fun _ R s => H s.heap ∧
      R (.ok (.ret (.ref (s.heap.push o).objs.size))) { s with heap := (s.heap.push o).push { cls := .type "enumerate", data := .fields #[.none, .bool false, .ref s.heap.objs.size, rawInt 0, .none, .none] } }) :=
  .of_wp fun prog w A R s h => by
    obtain ⟨hp, g, d, tk, os⟩ := s; obtain ⟨h1, h⟩ := h
    have hsub := sub_enumerate
    have q1 : ∀ {A' : Around} {E : Value → Shared → Prop} {Q : Value → Shared → Prop}, Q (.ref hp.objs.size) ⟨hp.push o, g, d, tk, os⟩ → wpAny (model prog w) A' (pyIter v) Q E ⟨hp, g, d, tk, os⟩ :=
      fun q => B.iter prog w _ _ ⟨hp, g, d, tk, os⟩ _ h1 q
    wp_walk using q1
    refine wpAny_stack_any fun st => wpAny_pure ?_
    split
    · rename_i c _ _ _ _ _
      cases (c == Value.type "enumerate")
      · wp_walk using q1
        exact ⟨_, rfl, h⟩
      · wp_walk using q1
        exact ⟨_, rfl, h⟩
    · wp_walk using q1
      exact ⟨_, rfl, h⟩
theorem enum_begins1 {prog : Program} {w : World} {A : Around} {E : Value → Shared → Prop} {s : Shared} {v : Value} {o : Obj} {H : Heap → Prop} {Q : Value → Shared → Prop} (B : Begins v o H) (h1 : H s.heap)
    (h : ∀ h', IsEnum h' (s.heap.objs.size + 1) s.heap.objs.size 0 .none → h'.get? s.heap.objs.size = some o → h'.objs.size = s.heap.objs.size + 2 →
      (∀ b o, s.heap.get? b = some o → h'.get? b = some o) → Q (.ref (s.heap.objs.size + 1)) { s with heap := h' }) :
    wpAny (model prog w) A (call (.type "enumerate") [v]) Q E s := by
  refine callType_new F.called_enumerate (by decide) (F.typeCall_enumerate_1 _) (F.newCall_enumerate_1 _) (fun obj => F.args_object_init_2 obj _) F.entry_enumerate_new
    (meets_enumerate_newB1 B) ⟨h1, ?_⟩
  have hz : (s.heap.push o).objs.size = s.heap.objs.size + 1 := Heap.size_push ..
  show _ ∧ _
  rw [hz]
  have he : IsEnum ((s.heap.push o).push { cls := .type "enumerate", data := .fields #[.none, .bool false, .ref s.heap.objs.size, rawInt 0, .none, .none] }) (s.heap.objs.size + 1) s.heap.objs.size 0 .none := by
    have := Heap.get?_push_size (s.heap.push o) (o := { cls := .type "enumerate", data := .fields #[.none, .bool false, .ref s.heap.objs.size, rawInt 0, .none, .none] }) rfl
    rw [hz] at this; exact this
  refine ⟨⟨_, he, rfl⟩, h _ he (Heap.get?_push_of_some _ (Heap.get?_push_size _ B.free)) (by rw [Heap.size_push, hz]) fun b o x => Heap.get?_push_of_some _ (Heap.get?_push_of_some _ x)⟩
theorem fi_enum {X : Cx} {a : Expr} {f : CFs} {p pos tpos : Pos} {elts : List Expr} {kk : Nat} (hg : Gl X "enumerate") (hm : X.mg "enumerate" = none) (ha : FCs X [a] f)
    (hs : starEach [a] X.env = [(false, eval a X.env)] := by rfl) : FI X (.Tuple elts kk tpos) (.Call (.Name "enumerate" p) [a] [] pos) (fEnum f) := by
  refine ⟨fun W tk => ⟨fun pins s σ H R I hq => ?_⟩⟩
  obtain ⟨g, rfl, rfl, ok, o⟩ := hq
  refine Call_ (ld_blt I hg hm PyProof.Rows.boot_enumerate (PyProof.Rows.callWith_type1 (ha.go tk ok I o.bind0 fun us s1 g1 xs vs e1 I1 r o1 st dv q => ?_) hs rfl))
  split at q
  · rename_i x hx
    change xs = [x] at hx
    subst hx
    split at q
    · rename_i ds h1
      simp only [Dvs] at dv
      obtain ⟨v1, _, rfl, d1, rfl⟩ := dv
      obtain ⟨a', us1, rfl, su, du⟩ := seq_at h1 d1
      cases r with
      | cons r1 rr =>
        cases rr
        cases r1
        obtain ⟨its1, rv1, p1, lt1⟩ := su.items I1
        obtain ⟨ob1, k1, B1⟩ := begins_K (kindOf x) a' its1.toArray
        refine enum_begins1 B1 p1 fun h' he hit hsz hk => wpAny_pyIter_enum he ?_
        have J : Inv X pins g1.st g1.H { s1 with heap := h' } := I1.kept (t' := s1.toks) hk
        refine ⟨s1.heap.objs.size + 1, [s1.heap.objs.size + 1, s1.heap.objs.size], _, _, g1.H, rfl, by rw [← e1]; exact J, turn_enumK (e := s1.heap.objs.size + 1) (it := s1.heap.objs.size) (Nat.ne_of_lt lt1) (Nat.ne_of_lt (Nat.lt_succ_of_lt lt1)), ⟨⟨.none, he⟩, k1 _ _ hit, Nat.succ_ne_self _⟩, fun b hb => ?_, ?_⟩
        · have e' : b = s1.heap.objs.size + 1 ∨ b = s1.heap.objs.size := by simpa using hb
          have hle : s1.heap.objs.size ≤ b := by
            rcases e' with z | z
            · rw [z]; exact Nat.le_add_right _ _
            · rw [z]; exact Nat.le_refl _
          exact I1.fpOk hle (I1.hok.fresh hle)
        · exact q g1 rfl e1 st o1 _ (fun _ => False) (fun _ z => z.elim) (enumK_ok h1 d1)
    · exact q.elim
  · exact q.elim
end BH

set_option maxRecDepth 100000
set_option maxHeartbeats 4000000
namespace BH
open PySem PySem.Spec PyProof.Rows L2
/-! ### zip of three, each a list or a tuple -/
def ItzK3 (K : PySem.W.Frag) (k1 k2 k3 : Bool) (a b c : Addr) : It :=
  ⟨fun i H => ∃ (xs ys zs : List V) (x y z : V), SqK K H k1 a xs ∧ SqK K H k2 b ys ∧ SqK K H k3 c zs ∧ xs[i]? = some x ∧ ys[i]? = some y ∧ zs[i]? = some z,
    fun i H v H' => ∃ T x y z, v = .ref T ∧ H T = none ∧ H' = upd H T (.tup [x, y, z]) ∧ (∀ xs, SqK K H k1 a xs → xs[i]? = some x) ∧ (∀ ys, SqK K H k2 b ys → ys[i]? = some y) ∧ ∀ zs, SqK K H k3 c zs → zs[i]? = some z,
    fun i H => ∃ xs ys zs : List V, SqK K H k1 a xs ∧ SqK K H k2 b ys ∧ SqK K H k3 c zs ∧ i ≤ xs.length ∧ i ≤ ys.length ∧ i ≤ zs.length ∧ (i = xs.length ∨ i = ys.length ∨ i = zs.length)⟩
theorem turn_zipK3 {P : Program} {w : World} {K : PySem.W.Frag} {elts : List Expr} {kk : Nat} {tpos : Pos} {k1 k2 k3 : Bool} {a b d z TI TO i1 i2 i3 : Addr} (D : ZipSep3 z TI TO i1 i2 i3 [i1, a] [i2, b] [i3, d]) (hai : a ≠ i1) (hbi : b ≠ i2) (hdi : d ≠ i3) :
    Turn P w K (.Tuple elts kk tpos) (ItzK3 K k1 k2 k3 a b d) [z, TI, TO, i1, i2, i3] z (fun i h => IsZip h z TI TO .none ∧ IsTupOf3 h TI (.ref i1) (.ref i2) (.ref i3) ∧ (∃ x y u, IsTupOf3 h TO x y u) ∧ ItK h k1 i1 a i ∧ ItK h k2 i2 b i ∧ ItK h k3 i3 d i) where
  mem := by simp
  obj := by
    rintro i h ⟨hz, hTI, ⟨x, y, u, hTO⟩, h1, h2, h3⟩ c hc
    simp only [List.mem_cons, List.not_mem_nil, or_false] at hc
    rcases hc with rfl | rfl | rfl | rfl | rfl | rfl
    · exact ⟨_, hz, fun v q => nomatch q⟩
    · exact ⟨_, hTI, fun v q => nomatch q⟩
    · exact ⟨_, hTO, fun v q => nomatch q⟩
    · exact h1.obj
    · exact h2.obj
    · exact h3.obj
  keep := by
    rintro i h h' ⟨hz, hTI, ⟨x, y, u, hTO⟩, h1, h2, h3⟩ k
    exact ⟨k z (by simp) _ hz, k TI (by simp) _ hTI, ⟨x, y, u, k TO (by simp) _ hTO⟩, h1.at (k i1 (by simp)), h2.at (k i2 (by simp)), h3.at (k i3 (by simp))⟩
  item := by
    intro X hP hw hK hc i pins s σ H E I hf st hg
    subst hP hw hK
    obtain ⟨hz, hTI, ⟨x0, y0, u0, hTO⟩, h1, h2, h3⟩ := st
    obtain ⟨xs, ys, zs, x, y, v, qx, qy, qz, hx, hy, hv⟩ := hg
    obtain ⟨its1, rv1, p1, _⟩ := qx.items I
    obtain ⟨its2, rv2, p2, _⟩ := qy.items I
    obtain ⟨its3, rv3, p3, _⟩ := qz.items I
    obtain ⟨u1, hu1, ru1⟩ := rv1.get hx
    obtain ⟨u2, hu2, ru2⟩ := rv2.get hy
    obtain ⟨u3, hu3, ru3⟩ := rv3.get hv
    have hh : X.A.in1.handled = none := I.ok.hd hc
    have ln1 : i < its1.length := by rw [← rv1.length]; exact (List.getElem?_eq_some_iff.mp hx).1
    have ln2 : i < its2.length := by rw [← rv2.length]; exact (List.getElem?_eq_some_iff.mp hy).1
    have ln3 : i < its3.length := by rw [← rv3.length]; exact (List.getElem?_eq_some_iff.mp hv).1
    have zlt : z < s.heap.objs.size := Heap.lt_size hz
    refine wpAny_pyNext_zipD3_item D (drawsK hh k1 i1 a hai its1.toArray) (drawsK hh k2 i2 b hbi its2.toArray) (drawsK hh k3 i3 d hdi its3.toArray) hz hTI hTO ⟨h1, p1⟩ ⟨h2, p2⟩ ⟨h3, p3⟩ (by simpa using ln1) (by simpa using ln2) (by simpa using ln3) fun x1 x2 x3 h' tk y1 y2 y3 z' TO' st1 st2 st3 hT hsz hk => ?_
    have e1 : x1 = u1 := by
      have y1 : its1.toArray[i]? = some x1 := y1
      rw [List.getElem?_toArray, hu1] at y1; exact (Option.some.inj y1).symm
    have e2 : x2 = u2 := by
      have y2 : its2.toArray[i]? = some x2 := y2
      rw [List.getElem?_toArray, hu2] at y2; exact (Option.some.inj y2).symm
    have e3 : x3 = u3 := by
      have y3 : its3.toArray[i]? = some x3 := y3
      rw [List.getElem?_toArray, hu3] at y3; exact (Option.some.inj y3).symm
    subst e1 e2 e3
    refine ⟨_, rfl, wpAny_letOwnedTupleGo_zip (s := { s with heap := h', toks := tk }) z' fun h'' z'' sb => ?_⟩
    have made : h''.get? s.heap.objs.size = some { cls := .type "tuple", data := .seq #[x1, x2, x3] } := (sb.2 _ (Nat.ne_of_gt zlt)).trans hT
    have new : ObjOk X.prog X.w (upd H s.heap.objs.size (.tup [x, y, v])) h'' s.heap.objs.size (.tup [x, y, v]) :=
      ⟨by show 3 ≤ sizeLine; decide, [x1, x2, x3], .cons ru1 (.cons ru2 (.cons ru3 .nil)), ⟨_, made, rfl, _, rfl⟩⟩
    have out : ∀ {c}, c ∉ [z, TI, TO, i1, i2, i3] → c ≠ z ∧ c ≠ TO ∧ c ≠ i1 ∧ c ≠ i2 ∧ c ≠ i3 := fun {c} hc => by
      simp only [List.mem_cons, List.not_mem_nil, or_false, not_or] at hc
      exact ⟨hc.1, hc.2.2.1, hc.2.2.2.1, hc.2.2.2.2.1, hc.2.2.2.2.2⟩
    have J : Inv X pins σ (upd H s.heap.objs.size (.tup [x, y, v])) { s with heap := h'', toks := tk } :=
      I.turnedNew (t' := tk) (ch := [z, TI, TO, i1, i2, i3]) (fun c o hc q => by
        obtain ⟨n1, n2, n3, n4, n5⟩ := out hc
        exact (sb.2 c n1).trans (hk c o n1 n2 n3 n4 n5 q)) hf (Nat.le_refl _) new
    refine ⟨.ref s.heap.objs.size, _, J, rfl, ⟨_, x, y, v, rfl, I.hok.fresh (Nat.le_refl _), rfl, fun l hl => by rw [hl.inj I qx]; exact hx, fun l hl => by rw [hl.inj I qy]; exact hy, fun l hl => by rw [hl.inj I qz]; exact hv⟩, ⟨z'', ?_, ⟨x1, x2, x3, ?_⟩, ?_, ?_, ?_⟩, fun c hcm => ?_⟩
    · exact (sb.2 _ D.TIz).trans (hk _ _ D.TIz D.TITO D.TIi1 D.TIi2 D.TIi3 hTI)
    · exact (sb.2 _ D.TOz).trans TO'
    · exact ItK.at st1.1 fun o q => (sb.2 _ (fun e => D.zf1 (by rw [← e]; simp))).trans q
    · exact ItK.at st2.1 fun o q => (sb.2 _ (fun e => D.zf2 (by rw [← e]; simp))).trans q
    · exact ItK.at st3.1 fun o q => (sb.2 _ (fun e => D.zf3 (by rw [← e]; simp))).trans q
    · have hlt : c < s.heap.objs.size := by
        simp only [List.mem_cons, List.not_mem_nil, or_false] at hcm
        rcases hcm with q | q | q | q | q | q
        · rw [q]; exact zlt
        · rw [q]; exact Heap.lt_size hTI
        · rw [q]; exact Heap.lt_size hTO
        · obtain ⟨o, e, _⟩ := h1.obj; rw [q]; exact Heap.lt_size e
        · obtain ⟨o, e, _⟩ := h2.obj; rw [q]; exact Heap.lt_size e
        · obtain ⟨o, e, _⟩ := h3.obj; rw [q]; exact Heap.lt_size e
      rw [upd_ne (Nat.ne_of_lt hlt)]
      exact (hf c hcm).1
  done := by
    intro X hP hw hK hc i pins s σ H E I hf st hg
    subst hP hw hK
    obtain ⟨hz, hTI, ⟨x0, y0, u0, hTO⟩, h1, h2, h3⟩ := st
    obtain ⟨xs, ys, zs, qx, qy, qz, l1, l2, l3, l4⟩ := hg
    obtain ⟨its1, rv1, p1, _⟩ := qx.items I
    obtain ⟨its2, rv2, p2, _⟩ := qy.items I
    obtain ⟨its3, rv3, p3, _⟩ := qz.items I
    have hh : X.A.in1.handled = none := I.ok.hd hc
    have n1 := rv1.length
    have n2 := rv2.length
    have n3 := rv3.length
    refine wpAny_pyNext_zipD3_end D (drawsK hh k1 i1 a hai its1.toArray) (drawsK hh k2 i2 b hbi its2.toArray) (drawsK hh k3 i3 d hdi its3.toArray) hz hTI hTO ⟨h1, p1⟩ ⟨h2, p2⟩ ⟨h3, p3⟩ (by rw [List.size_toArray]; omega) (by rw [List.size_toArray]; omega) (by rw [List.size_toArray]; omega) (by rw [List.size_toArray, List.size_toArray, List.size_toArray]; omega) fun h' tk hk => ⟨rfl, I.turnedL (t' := tk) (ch := [z, TI, TO, i1, i2, i3]) (fun c o hc q => ?_) hf⟩
    simp only [List.mem_cons, List.not_mem_nil, or_false, not_or] at hc
    exact hk c o hc.1 hc.2.2.1 hc.2.2.2.1 hc.2.2.2.2.1 hc.2.2.2.2.2 q
  self := by
    rintro A i s Q E ⟨hz, _⟩ h
    exact wpAny_pyIter_zip hz h
def zipD3 (ds es fs : List PyData) : List PyData := (List.zip ds (List.zip es fs)).map fun p => .tuple [p.1, p.2.1, p.2.2]
theorem zipD3_get (ds es fs : List PyData) (i : Nat) : (zipD3 ds es fs)[i]? = match ds[i]?, es[i]?, fs[i]? with
  | some d, some e, some f => some (.tuple [d, e, f])
  | _, _, _ => none := by
  unfold zipD3
  rw [List.getElem?_map]
  cases h1 : ds[i]? with
  | none =>
    have : (List.zip ds (List.zip es fs))[i]? = none := by
      rw [List.getElem?_eq_none_iff] at h1 ⊢
      rw [List.length_zip]; omega
    rw [this]; rfl
  | some d =>
    cases h2 : es[i]? with
    | none =>
      have : (List.zip ds (List.zip es fs))[i]? = none := by
        rw [List.getElem?_eq_none_iff] at h2 ⊢
        rw [List.length_zip, List.length_zip]; omega
      rw [this]; rfl
    | some e =>
      cases h3 : fs[i]? with
      | none =>
        have : (List.zip ds (List.zip es fs))[i]? = none := by
          rw [List.getElem?_eq_none_iff] at h3 ⊢
          rw [List.length_zip, List.length_zip]; omega
        rw [this]; rfl
      | some f =>
        have : (List.zip ds (List.zip es fs))[i]? = some (d, e, f) := by
          rw [List.getElem?_zip_eq_some]
          exact ⟨h1, by rw [List.getElem?_zip_eq_some]; exact ⟨h2, h3⟩⟩
        rw [this]; rfl
theorem zipK3_ok {K : PySem.W.Frag} {A : AS} {H : Hp} {x1 x2 x3 : PyData} {ds es fs : List PyData} {a b c : Addr} (e1 : itemsOf x1 = some ds) (e2 : itemsOf x2 = some es) (e3 : itemsOf x3 = some fs) (h1 : Dv K A H x1 (.ref a)) (h2 : Dv K A H x2 (.ref b)) (h3 : Dv K A H x3 (.ref c)) : ItOk K (fun _ => False) (ItzK3 K (kindOf x1) (kindOf x2) (kindOf x3) a b c) (zipD3 ds es fs) A H := by
  refine ⟨fun A H => Dv K A H x1 (.ref a) ∧ Dv K A H x2 (.ref b) ∧ Dv K A H x3 (.ref c), ⟨h1, h2, h3⟩, fun O A H A' H' ⟨p, q, r⟩ e hO _ => ⟨Dv.ext e hO _ _ p, Dv.ext e hO _ _ q, Dv.ext e hO _ _ r⟩, fun _ _ _ _ z => z.elim, fun A H ⟨p, q, r⟩ => ?_⟩
  obtain ⟨a', us, ea, su, du⟩ := seq_at e1 p
  obtain ⟨b', ws, eb, sw, dw⟩ := seq_at e2 q
  obtain ⟨c', ts, ec, st, dt⟩ := seq_at e3 r
  cases ea
  cases eb
  cases ec
  refine ⟨fun i x0 e => ?_, us, ws, ts, su, sw, st, ?_⟩
  · rw [zipD3_get] at e
    cases hd : ds[i]? with
    | none => rw [hd] at e; cases e
    | some d =>
      cases he : es[i]? with
      | none => rw [hd, he] at e; cases e
      | some d' =>
        cases hf : fs[i]? with
        | none => rw [hd, he, hf] at e; cases e
        | some d'' =>
          rw [hd, he, hf] at e
          cases e
          obtain ⟨v, f1, f2⟩ := du.getD hd
          obtain ⟨w, g1, g2⟩ := dw.getD he
          obtain ⟨u, k1, k2⟩ := dt.getD hf
          refine ⟨⟨us, ws, ts, v, w, u, su, sw, st, f1, g1, k1⟩, fun x H' y => ?_⟩
          obtain ⟨T, x1', y1', z1', rfl, hT, rfl, q1, q2, q3⟩ := y
          have q1 := q1 us su
          have q2 := q2 ws sw
          have q3 := q3 ts st
          rw [f1] at q1; cases q1
          rw [g1] at q2; cases q2
          rw [k1] at q3; cases q3
          have ex : ∀ O, Ext O A H A (upd H T (.tup [v, w, u])) := fun O => alloc_ext hT
          refine ⟨ex, ?_⟩
          simp only [Dv]
          exact ⟨T, [v, w, u], rfl, .of upd_same, Dvs.cons (Dv.ext (ex (fun _ => False)) (fun _ z => z.elim) _ _ f2) (Dvs.cons (Dv.ext (ex (fun _ => False)) (fun _ z => z.elim) _ _ g2) (Dvs.one (Dv.ext (ex (fun _ => False)) (fun _ z => z.elim) _ _ k2)))⟩
  · unfold zipD3
    rw [List.length_map, List.length_zip, List.length_zip, ← du.length, ← dw.length, ← dt.length]
    omega
def fZip3 (f : CFs) : IF := fun env => (f env).bind fun p => match p.1 with
  | [x, y, z] => match itemsOf x, itemsOf y, itemsOf z with
    | some ds, some es, some fs => .ok ((zipD3 ds es fs, []), p.2)
    | _, _, _ => .fail
  | _ => .fail
theorem zip_sep3 {n a b c : Nat} (ha : a < n) (hb : b < n) (hc : c < n) : ZipSep3 (n + 5) (n + 3) (n + 4) n (n + 1) (n + 2) [n, a] [n + 1, b] [n + 2, c] where
  TIz := (show (n + 3 : Nat) ≠ n + 5 by omega)
  TOz := (show (n + 4 : Nat) ≠ n + 5 by omega)
  TITO := (show (n + 3 : Nat) ≠ n + 4 by omega)
  TIi1 := (show (n + 3 : Nat) ≠ n by omega)
  mem1 := List.mem_cons_self
  zf1 := nin2 (show (n + 5 : Nat) ≠ n by omega) (show (n + 5 : Nat) ≠ a by omega)
  Tf1 := nin2 (show (n + 4 : Nat) ≠ n by omega) (show (n + 4 : Nat) ≠ a by omega)
  TIi2 := (show (n + 3 : Nat) ≠ n + 1 by omega)
  mem2 := List.mem_cons_self
  zf2 := nin2 (show (n + 5 : Nat) ≠ n + 1 by omega) (show (n + 5 : Nat) ≠ b by omega)
  Tf2 := nin2 (show (n + 4 : Nat) ≠ n + 1 by omega) (show (n + 4 : Nat) ≠ b by omega)
  TIi3 := (show (n + 3 : Nat) ≠ n + 2 by omega)
  mem3 := List.mem_cons_self
  zf3 := nin2 (show (n + 5 : Nat) ≠ n + 2 by omega) (show (n + 5 : Nat) ≠ c by omega)
  Tf3 := nin2 (show (n + 4 : Nat) ≠ n + 2 by omega) (show (n + 4 : Nat) ≠ c by omega)
  sep1_2 := nin2 (show (n : Nat) ≠ n + 1 by omega) (show (n : Nat) ≠ b by omega)
  sep1_3 := nin2 (show (n : Nat) ≠ n + 2 by omega) (show (n : Nat) ≠ c by omega)
  sep2_1 := nin2 (show (n + 1 : Nat) ≠ n by omega) (show (n + 1 : Nat) ≠ a by omega)
  sep2_3 := nin2 (show (n + 1 : Nat) ≠ n + 2 by omega) (show (n + 1 : Nat) ≠ c by omega)
  sep3_1 := nin2 (show (n + 2 : Nat) ≠ n by omega) (show (n + 2 : Nat) ≠ a by omega)
  sep3_2 := nin2 (show (n + 2 : Nat) ≠ n + 1 by omega) (show (n + 2 : Nat) ≠ b by omega)
theorem fi_zip3 {X : Cx} {a b c : Expr} {f : CFs} {p pos tpos : Pos} {elts : List Expr} {kk : Nat} (hg : Gl X "zip") (hm : X.mg "zip" = none) (ha : FCs X [a, b, c] f)
    (hs : starEach [a, b, c] X.env = (false, eval a X.env) :: starEach [b, c] X.env := by rfl) (hpl : (backTo pos (starEach [b, c] X.env)).any (·.1) = false := by rfl) : FI X (.Tuple elts kk tpos) (.Call (.Name "zip" p) [a, b, c] [] pos) (fZip3 f) := by
  refine ⟨fun W tk => ⟨fun pins s σ H R I hq => ?_⟩⟩
  obtain ⟨g, rfl, rfl, ok, o⟩ := hq
  refine Call_ (ld_blt I hg hm PyProof.Rows.boot_zip (PyProof.Rows.callWith_type1 (ha.go tk ok I o.bind0 fun us s1 g1 xs vs e1 I1 r o1 st dv q => ?_) hs hpl))
  split at q
  · rename_i x y z hx
    change xs = [x, y, z] at hx
    subst hx
    split at q
    · rename_i ds es fs h1 h2 h3
      simp only [Dvs] at dv
      obtain ⟨v1, _, rfl, d1, v2, _, rfl, d2, v3, _, rfl, d3, rfl⟩ := dv
      obtain ⟨a', us1, rfl, su, du⟩ := seq_at h1 d1
      obtain ⟨b', us2, rfl, sw, dw⟩ := seq_at h2 d2
      obtain ⟨c', us3, rfl, sx, dx⟩ := seq_at h3 d3
      cases r with
      | cons r1 rr =>
        cases rr with
        | cons r2 rr =>
          cases rr with
          | cons r3 rr =>
            cases rr
            cases r1
            cases r2
            cases r3
            obtain ⟨its1, rv1, p1, lt1⟩ := su.items I1
            obtain ⟨its2, rv2, p2, lt2⟩ := sw.items I1
            obtain ⟨its3, rv3, p3, lt3⟩ := sx.items I1
            obtain ⟨ob1, k1, B1⟩ := begins_K (kindOf x) a' its1.toArray
            obtain ⟨ob2, k2, B2⟩ := begins_K (kindOf y) b' its2.toArray
            obtain ⟨ob3, k3, B3⟩ := begins_K (kindOf z) c' its3.toArray
            refine zip_begins3 B1 B2 B3 p1 p2 p3 fun h' hz hTI hTO g1' g2' g3' hsz hk => wpAny_pyIter_zip hz ?_
            have J : Inv X pins g1.st g1.H { s1 with heap := h' } := I1.kept (t' := s1.toks) hk
            refine ⟨s1.heap.objs.size + 5, [s1.heap.objs.size + 5, s1.heap.objs.size + 3, s1.heap.objs.size + 4, s1.heap.objs.size, s1.heap.objs.size + 1, s1.heap.objs.size + 2], _, _, g1.H, rfl, by rw [← e1]; exact J, turn_zipK3 (zip_sep3 lt1 lt2 lt3) (Nat.ne_of_lt lt1) (Nat.ne_of_lt (Nat.lt_succ_of_lt lt2)) (Nat.ne_of_lt (Nat.lt_succ_of_lt (Nat.lt_succ_of_lt lt3))), ⟨hz, hTI, ⟨_, _, _, hTO⟩, k1 _ _ g1', k2 _ _ g2', k3 _ _ g3'⟩, fun c hc => ?_, q g1 rfl e1 st o1 _ (fun _ => False) (fun _ z => z.elim) (zipK3_ok h1 h2 h3 d1 d2 d3)⟩
            have hle : s1.heap.objs.size ≤ c := by
              simp only [List.mem_cons, List.not_mem_nil, or_false] at hc
              rcases hc with z | z | z | z | z | z
              · rw [z]; exact Nat.le_add_right _ _
              · rw [z]; exact Nat.le_add_right _ _
              · rw [z]; exact Nat.le_add_right _ _
              · rw [z]; exact Nat.le_refl _
              · rw [z]; exact Nat.le_add_right _ _
              · rw [z]; exact Nat.le_add_right _ _
            exact I1.fpOk hle (I1.hok.fresh hle)
    · exact q.elim
  · exact q.elim
end BH

set_option maxRecDepth 100000
set_option maxHeartbeats 2000000
namespace BH
open PySem PySem.Spec PyProof.Rows L2
/-! ### what a def computes, over plain data -/
inductive M (α : Type) where
  | ok (a : α)
  | exc (c : String) (fs : List (String × PyData))
  | fail
protected def M.bind {α β : Type} : M α → (α → M β) → M β
  | .ok a, f => f a
  | .exc c fs, _ => .exc c fs
  | .fail, _ => .fail
instance : Monad M where
  pure := .ok
  bind := M.bind
section
variable {α β γ : Type}
@[simp] theorem M.ok_bind (a : α) (f : α → M β) : (M.ok a >>= f) = f a := rfl
@[simp] theorem M.exc_bind (c : String) (fs : List (String × PyData)) (f : α → M β) : (M.exc c fs >>= f) = .exc c fs := rfl
@[simp] theorem M.fail_bind (f : α → M β) : (M.fail >>= f) = .fail := rfl
@[simp] theorem M.pure_ok (a : α) : (pure a : M α) = .ok a := rfl
theorem M.assoc (m : M α) (f : α → M β) (h : β → M γ) : (m >>= f) >>= h = m >>= fun a => f a >>= h := by cases m <;> rfl
end
/-! ### the reading against it -/
def bnd {β γ : Type} (r : Res (β × SE)) (g : β → SE → Res γ) : Res γ := r.bind fun p => g p.1 p.2
theorem bnd_ok {β γ : Type} (b : β) (e : SE) (g : β → SE → Res γ) : bnd (.ok (b, e)) g = g b e := rfl
theorem bnd_assoc {β γ δ : Type} (r : Res (β × SE)) (f : β → SE → Res (γ × SE)) (g : γ → SE → Res δ) : bnd (bnd r f) g = bnd r fun b e => bnd (f b e) g := by cases r <;> rfl
def Sim {α β : Type} (r : Res (β × SE)) (m : M α) (k : α → β → SE → Prop) (x : SE → Prop) : Prop :=
  match m with
  | .ok a => ∃ b e, r = .ok (b, e) ∧ k a b e
  | .exc c fs => ∃ e, r = .exc c fs e ∧ x e
  | .fail => True
section
variable {α β γ δ σ ρ : Type} {env e : SE} {x : SE → Prop}
theorem sim_ret {a : α} {b : β} {k : α → β → SE → Prop} (h : k a b e) : Sim (.ok (b, e)) (.ok a) k x := ⟨b, e, rfl, h⟩
theorem sim_bind {r : Res (β × SE)} {m1 : M α} {k1 : α → β → SE → Prop} {g : β → SE → Res (δ × SE)} {m2 : α → M γ} {k : γ → δ → SE → Prop} (h : Sim r m1 k1 x) (hg : ∀ a b e, k1 a b e → Sim (g b e) (m2 a) k x) : Sim (bnd r g) (m1 >>= m2) k x := by
  cases m1 with
  | ok a => obtain ⟨b, e, rfl, h⟩ := h; exact hg a b e h
  | exc c fs => obtain ⟨e, rfl, h⟩ := h; exact ⟨e, rfl, h⟩
  | fail => exact trivial
theorem sim_imp {r : Res (β × SE)} {m : M α} {k k' : α → β → SE → Prop} {x x' : SE → Prop} (h : Sim r m k x) (hk : ∀ a b e, k a b e → k' a b e) (hx : ∀ e, x e → x' e) : Sim r m k' x' := by
  cases m with
  | ok a => obtain ⟨b, e, rfl, h⟩ := h; exact ⟨b, e, rfl, hk _ _ _ h⟩
  | exc c fs => obtain ⟨e, rfl, h⟩ := h; exact ⟨e, rfl, hx _ h⟩
  | fail => exact trivial
theorem sim_bnd0 {r : Res (β × SE)} {m : M α} {k : α → β → SE → Prop} (h : Sim (bnd r fun b e => .ok (b, e)) m k x) : Sim r m k x := by
  have : (bnd r fun b e => Res.ok (b, e)) = r := by cases r <;> rfl
  rwa [this] at h
end
/-! ### constructs, step by step -/
def binR (op : PyData → PyData → Option RV) (a b : RV) (e : SE) : Res (RV × SE) := match a.view e, b.view e with
  | some x, some y => match op x y with
    | some r => .ok (r, e)
    | none => .fail
  | _, _ => .fail
def negR (a : RV) (e : SE) : Res (RV × SE) := match a.view e with
  | some (.int i) => .ok (.d (.int (-i)), e)
  | _ => .fail
def takeR (a : RV) (e : SE) : Res (PyData × SE) := match a.take e with
  | some q => .ok q
  | none => .fail
def tupR (xs : List PyData) (e : SE) : Res (RV × SE) := if xs.length ≤ lim then .ok (.d (.tuple xs), e) else .fail
def lstR (xs : List PyData) (e : SE) : Res (RV × SE) := if xs.length ≤ lim then .ok (.tmp (.lst xs), e) else .fail
def callBR (op : List PyData → Option RV) (rs : List RV) (e : SE) : Res (RV × SE) := match views rs e with
  | some xs => match op xs with
    | some r => .ok (r, e)
    | none => .fail
  | none => .fail
def callFR (n : Nat) (F : List Arg → FRes) (as : List AV) (e : SE) : Res (RV × SE) := if (refsOf as).Nodup then match toArgs as e with
    | some l => if l.length = n then match F l with
      | .ok r outs => .ok (r.rv, putOuts as outs e)
      | .exc c fs outs => .exc c fs (putOuts as outs e)
      | .fail => .fail
      else .fail
    | none => .fail
  else .fail
def slR (a : RV) (lo hi : Option Int) (e : SE) : Res (RV × SE) := match a.view e with
  | some x => match opSl x lo hi with
    | some res => .ok (res, e)
    | none => .fail
  | none => .fail
def partR (a : RV) (e : SE) : Res (Option Int × SE) := match a.view e with
  | some (.int i) => .ok (some i, e)
  | _ => .fail
def isaR (op : PyData → Bool) (a : RV) (e : SE) : Res (RV × SE) := match a.view e with
  | some x => .ok (.d (.bool (op x)), e)
  | none => .fail
def seqR (a : RV) (e : SE) : Res ((List PyData × List Nat) × SE) := match a.view e with
  | some (.list ds) => .ok ((ds, lkOf a e), e)
  | some (.tuple ds) => .ok ((ds, []), e)
  | _ => .fail
def zipR (xs : List PyData) (e : SE) : Res ((List PyData × List Nat) × SE) := match xs with
  | [x, y] => match itemsOf x, itemsOf y with
    | some ds, some es => .ok ((zipD ds es, []), e)
    | _, _ => .fail
  | _ => .fail
def zip0R (xs : List PyData) (e : SE) : Res ((List PyData × List Nat) × SE) := match xs with
  | [.list ds, .list es] => .ok ((zipD ds es, []), e)
  | [.tuple ds, .tuple es] => .ok ((zipD ds es, []), e)
  | _ => .fail
def rng1R (rs : List RV) (e : SE) : Res ((List PyData × List Nat) × SE) := match views rs e with
  | some [.int j] => if rngG j then .ok ((rangeD 0 j.toNat, []), e) else .fail
  | _ => .fail
def rng2R (rs : List RV) (e : SE) : Res ((List PyData × List Nat) × SE) := match views rs e with
  | some [.int i, .int j] => if rngG i ∧ rngG j then .ok ((rangeD i (j - i).toNat, []), e) else .fail
  | _ => .fail
def compR (b : BF) (vs : List Nat) (tt : TF) (te : CF) (it : List PyData × List Nat) (e : SE) : Res (RV × SE) := match cLoop b vs tt te it.1 (lockAll it.2 e) [] with
  | .ok (acc, e') => .ok (.tmp (.lst acc), unlockAll it.2 e e')
  | .exc _ _ _ => .fail
  | .fail => .fail
def forR (b : BF) (body : SF) (it : List PyData × List Nat) (e : SE) : Res (Fl × SE) := fUnl it.2 e (fLoop b body it.1 (lockAll it.2 e))
def asgR (i : Nat) (r : RV) (e : SE) : Res (Fl × SE) := match asg r e i with
  | some e' => .ok (.nx, e')
  | none => .fail
def parR (i j : Nat) (rs : List RV) (e : SE) : Res (Fl × SE) := match rs with
  | [r1, r2] => match r1.norm e with
    | some (r1', env1) => match r2.norm env1 with
      | some (r2', env2) => match r1'.mv, r2'.mv with
        | some m1, some m2 => match setS env2 i m1 with
          | some env3 => match setS env3 j m2 with
            | some env4 => .ok (.nx, env4)
            | none => .fail
          | none => .fail
        | _, _ => .fail
      | none => .fail
    | none => .fail
  | _ => .fail
def bindR (b : BF) (x : PyData) (e : SE) : Res (Fl × SE) := match b x e with
  | some e' => .ok (.nx, e')
  | none => .fail
def setIxR (p : PyData) (q : RV) (r : PyData) (e : SE) : Res (Fl × SE) := match q, r with
  | .slot j, .int k => match pokeE e j fun xs => (ixN xs.length k).map fun n => xs.set n p with
    | some env' => .ok (.nx, env')
    | none => .fail
  | _, _ => .fail
def retR (r : RV) (e : SE) : Res (Fl × SE) := match r with
  | .d x => .ok (.rt (.d x), e)
  | .tmp c => .ok (.rt (.tmp c), e)
  | .slot i => match e[i]? with
    | some (some (.d x)) => .ok (.rt (.d x), e)
    | some (some (.cell .own c)) => .ok (.rt (.tmp c), e)
    | _ => .fail
def seqK (t : SF) (fl : Fl) (e : SE) : Res (Fl × SE) := match fl with
  | .nx => t e
  | _ => .ok (fl, e)
def frzK (i : Nat) (fl : Fl) (e : SE) : Res (Fl × SE) := match fl with
  | .nx => match (RV.slot i).take e with
    | some q => .ok (.nx, q.2)
    | none => .fail
  | _ => .ok (fl, e)
def andVR (t : EF) (a : RV) (e : SE) : Res (RV × SE) := match a.view e with
  | some x => match truD x with
    | some true => t e
    | some false => .ok (a, e)
    | none => .fail
  | none => .fail
def orVR (t : EF) (a : RV) (e : SE) : Res (RV × SE) := match a.view e with
  | some x => match truD x with
    | some true => .ok (a, e)
    | some false => t e
    | none => .fail
  | none => .fail
section
variable {α δ : Type} {env : SE} {m : M α} {k : α → δ → SE → Prop} {x : SE → Prop}
theorem c_name {i : Nat} {v : PyData} {g : RV → SE → Res (δ × SE)} (h : env[i]? = some (some (.d v))) (hg : Sim (g (.d v) env) m k x) : Sim (bnd (fName i env) g) m k x := by
  have : fName i env = .ok (.d v, env) := by unfold fName; rw [h]
  rw [this]; exact hg
theorem c_cell {i : Nat} {md : Mode} {c : Cell} {g : RV → SE → Res (δ × SE)} (h : env[i]? = some (some (.cell md c))) (hg : Sim (g (.slot i) env) m k x) : Sim (bnd (fName i env) g) m k x := by
  have : fName i env = .ok (.slot i, env) := by unfold fName; rw [h]
  rw [this]; exact hg
theorem c_const {v : PyData} {g : RV → SE → Res (δ × SE)} (hg : Sim (g (.d v) env) m k x) : Sim (bnd (fC v env) g) m k x := hg
theorem c_dic0 {g : RV → SE → Res (δ × SE)} (hg : Sim (g (.d (.dict [])) env) m k x) : Sim (bnd (fDic0 env) g) m k x := hg
theorem c_bin {op : PyData → PyData → Option RV} {fa fb : EF} {g : RV → SE → Res (δ × SE)} (h : Sim (bnd (fa env) fun a e1 => bnd (fb e1) fun b e2 => bnd (binR op a b e2) g) m k x) : Sim (bnd (fBin op fa fb env) g) m k x := by
  have e : fBin op fa fb env = bnd (fa env) fun a e1 => bnd (fb e1) fun b e2 => binR op a b e2 := rfl
  rw [e]; simpa only [bnd_assoc] using h
theorem c_neg {f : EF} {g : RV → SE → Res (δ × SE)} (h : Sim (bnd (f env) fun a e1 => bnd (negR a e1) g) m k x) : Sim (bnd (fNeg f env) g) m k x := by
  have e : fNeg f env = bnd (f env) fun a e1 => negR a e1 := rfl
  rw [e]; simpa only [bnd_assoc] using h
theorem c_take {f : EF} {g : PyData → SE → Res (δ × SE)} (h : Sim (bnd (f env) fun a e1 => bnd (takeR a e1) g) m k x) : Sim (bnd (fTake f env) g) m k x := by
  have e : fTake f env = bnd (f env) fun a e1 => takeR a e1 := rfl
  rw [e]; simpa only [bnd_assoc] using h
theorem c_nil {g : List PyData → SE → Res (δ × SE)} (h : Sim (g [] env) m k x) : Sim (bnd (fNil env) g) m k x := h
theorem c_cons {f : CF} {t : CFs} {g : List PyData → SE → Res (δ × SE)} (h : Sim (bnd (f env) fun a e1 => bnd (t e1) fun as e2 => g (a :: as) e2) m k x) : Sim (bnd (fCons f t env) g) m k x := by
  have e : fCons f t env = bnd (f env) fun a e1 => bnd (t e1) fun as e2 => .ok (a :: as, e2) := rfl
  rw [e]; simpa only [bnd_assoc, bnd_ok] using h
theorem c_pnil {g : List RV → SE → Res (δ × SE)} (h : Sim (g [] env) m k x) : Sim (bnd (fPNil env) g) m k x := h
theorem c_pcons {f : EF} {t : EFs} {g : List RV → SE → Res (δ × SE)} (h : Sim (bnd (f env) fun a e1 => bnd (t e1) fun as e2 => g (a :: as) e2) m k x) : Sim (bnd (fPCons f t env) g) m k x := by
  have e : fPCons f t env = bnd (f env) fun a e1 => bnd (t e1) fun as e2 => .ok (a :: as, e2) := rfl
  rw [e]; simpa only [bnd_assoc, bnd_ok] using h
theorem c_tup {f : CFs} {g : RV → SE → Res (δ × SE)} (h : Sim (bnd (f env) fun a e1 => bnd (tupR a e1) g) m k x) : Sim (bnd (fTup f env) g) m k x := by
  have e : fTup f env = bnd (f env) fun a e1 => tupR a e1 := rfl
  rw [e]; simpa only [bnd_assoc] using h
theorem c_lst {f : CFs} {g : RV → SE → Res (δ × SE)} (h : Sim (bnd (f env) fun a e1 => bnd (lstR a e1) g) m k x) : Sim (bnd (fLst f env) g) m k x := by
  have e : fLst f env = bnd (f env) fun a e1 => lstR a e1 := rfl
  rw [e]; simpa only [bnd_assoc] using h
theorem c_call {op : List PyData → Option RV} {f : EFs} {g : RV → SE → Res (δ × SE)} (h : Sim (bnd (f env) fun a e1 => bnd (callBR op a e1) g) m k x) : Sim (bnd (fCall op f env) g) m k x := by
  have e : fCall op f env = bnd (f env) fun a e1 => callBR op a e1 := rfl
  rw [e]; simpa only [bnd_assoc] using h
theorem c_callF {n : Nat} {F : List Arg → FRes} {f : AF} {g : RV → SE → Res (δ × SE)} (h : Sim (bnd (f env) fun a e1 => bnd (callFR n F a e1) g) m k x) : Sim (bnd (fCallF n F f env) g) m k x := by
  have e : fCallF n F f env = bnd (f env) fun a e1 => callFR n F a e1 := rfl
  rw [e]; simpa only [bnd_assoc] using h
theorem c_anil {g : List AV → SE → Res (δ × SE)} (h : Sim (g [] env) m k x) : Sim (bnd (aNil env) g) m k x := h
theorem c_adat {f : CF} {t : AF} {g : List AV → SE → Res (δ × SE)} (h : Sim (bnd (f env) fun a e1 => bnd (t e1) fun as e2 => g (.d a :: as) e2) m k x) : Sim (bnd (aDat f t env) g) m k x := by
  have e : aDat f t env = bnd (f env) fun a e1 => bnd (t e1) fun as e2 => .ok (.d a :: as, e2) := rfl
  rw [e]; simpa only [bnd_assoc, bnd_ok] using h
theorem c_aref {i : Nat} {md : Mode} {c : Cell} {t : AF} {g : List AV → SE → Res (δ × SE)} (hi : env[i]? = some (some (.cell md c))) (h : Sim (bnd (t env) fun as e2 => g (.ref i :: as) e2) m k x) : Sim (bnd (aRef i t env) g) m k x := by
  have e : aRef i t env = bnd (t env) fun as e2 => .ok (.ref i :: as, e2) := by unfold aRef; rw [hi]; rfl
  rw [e]; simpa only [bnd_assoc, bnd_ok] using h
theorem c_nopart {g : Option Int → SE → Res (δ × SE)} (h : Sim (g none env) m k x) : Sim (bnd (fNoPart env) g) m k x := h
theorem c_part {f : EF} {g : Option Int → SE → Res (δ × SE)} (h : Sim (bnd (f env) fun a e1 => bnd (partR a e1) g) m k x) : Sim (bnd (fPart f env) g) m k x := by
  have e : fPart f env = bnd (f env) fun a e1 => partR a e1 := rfl
  rw [e]; simpa only [bnd_assoc] using h
theorem c_sl {f : EF} {lo hi : OF} {g : RV → SE → Res (δ × SE)} (h : Sim (bnd (f env) fun a e1 => bnd (lo e1) fun l e2 => bnd (hi e2) fun r e3 => bnd (slR a l r e3) g) m k x) : Sim (bnd (fSl f lo hi env) g) m k x := by
  have e : fSl f lo hi env = bnd (f env) fun a e1 => bnd (lo e1) fun l e2 => bnd (hi e2) fun r e3 => slR a l r e3 := rfl
  rw [e]; simpa only [bnd_assoc] using h
theorem c_isa {op : PyData → Bool} {f : EF} {g : RV → SE → Res (δ × SE)} (h : Sim (bnd (f env) fun a e1 => bnd (isaR op a e1) g) m k x) : Sim (bnd (fIsa op f env) g) m k x := by
  have e : fIsa op f env = bnd (f env) fun a e1 => isaR op a e1 := rfl
  rw [e]; simpa only [bnd_assoc] using h
theorem c_comp {fi : IF} {b : BF} {vs : List Nat} {tt : TF} {te : CF} {g : RV → SE → Res (δ × SE)} (h : Sim (bnd (fi env) fun it e1 => bnd (compR b vs tt te it e1) g) m k x) : Sim (bnd (fComp fi b vs tt te env) g) m k x := by
  have e : fComp fi b vs tt te env = bnd (fi env) fun it e1 => compR b vs tt te it e1 := rfl
  rw [e]; simpa only [bnd_assoc] using h
theorem c_notV {f : TF} {g : RV → SE → Res (δ × SE)} (h : Sim (bnd (f env) fun b e1 => g (.d (.bool !b)) e1) m k x) : Sim (bnd (fNotV f env) g) m k x := by
  have e : fNotV f env = bnd (f env) fun b e1 => .ok (.d (.bool !b), e1) := rfl
  rw [e]; simpa only [bnd_assoc, bnd_ok] using h
theorem c_ifE {c : TF} {a b : EF} {g : RV → SE → Res (δ × SE)} (h : Sim (bnd (c env) fun t e1 => bnd (if t = true then a e1 else b e1) g) m k x) : Sim (bnd (fIf c a b env) g) m k x := by
  have e : fIf c a b env = bnd (c env) fun t e1 => if t = true then a e1 else b e1 := rfl
  rw [e]; simpa only [bnd_assoc] using h
theorem c_andV {f t : EF} {g : RV → SE → Res (δ × SE)} (h : Sim (bnd (f env) fun a e1 => bnd (andVR t a e1) g) m k x) : Sim (bnd (fAndV f t env) g) m k x := by
  have e : fAndV f t env = bnd (f env) fun a e1 => andVR t a e1 := rfl
  rw [e]; simpa only [bnd_assoc] using h
theorem c_orV {f t : EF} {g : RV → SE → Res (δ × SE)} (h : Sim (bnd (f env) fun a e1 => bnd (orVR t a e1) g) m k x) : Sim (bnd (fOrV f t env) g) m k x := by
  have e : fOrV f t env = bnd (f env) fun a e1 => orVR t a e1 := rfl
  rw [e]; simpa only [bnd_assoc] using h
/-! tests -/
theorem c_tru {f : EF} {g : Bool → SE → Res (δ × SE)} (h : Sim (bnd (f env) fun a e1 => bnd (truR a e1) g) m k x) : Sim (bnd (fTru f env) g) m k x := by
  have e : fTru f env = bnd (f env) fun a e1 => truR a e1 := rfl
  rw [e]; simpa only [bnd_assoc] using h
theorem c_and {f t : TF} {g : Bool → SE → Res (δ × SE)} (h : Sim (bnd (f env) fun a e1 => bnd (if a = true then t e1 else .ok (false, e1)) g) m k x) : Sim (bnd (fAnd f t env) g) m k x := by
  have e : fAnd f t env = bnd (f env) fun a e1 => if a = true then t e1 else .ok (false, e1) := rfl
  rw [e]; simpa only [bnd_assoc] using h
theorem c_or {f t : TF} {g : Bool → SE → Res (δ × SE)} (h : Sim (bnd (f env) fun a e1 => bnd (if a = true then .ok (true, e1) else t e1) g) m k x) : Sim (bnd (fOr f t env) g) m k x := by
  have e : fOr f t env = bnd (f env) fun a e1 => if a = true then .ok (true, e1) else t e1 := rfl
  rw [e]; simpa only [bnd_assoc] using h
theorem c_not {f : TF} {g : Bool → SE → Res (δ × SE)} (h : Sim (bnd (f env) fun b e1 => g (!b) e1) m k x) : Sim (bnd (fNot f env) g) m k x := by
  have e : fNot f env = bnd (f env) fun b e1 => .ok (!b, e1) := rfl
  rw [e]; simpa only [bnd_assoc, bnd_ok] using h
theorem c_yes {g : Bool → SE → Res (δ × SE)} (h : Sim (g true env) m k x) : Sim (bnd (fYes env) g) m k x := h
/-! iterables -/
theorem c_seq {f : EF} {g : (List PyData × List Nat) → SE → Res (δ × SE)} (h : Sim (bnd (f env) fun a e1 => bnd (seqR a e1) g) m k x) : Sim (bnd (fSeq f env) g) m k x := by
  have e : fSeq f env = bnd (f env) fun a e1 => seqR a e1 := rfl
  rw [e]; simpa only [bnd_assoc] using h
theorem c_rng1 {f : EFs} {g : (List PyData × List Nat) → SE → Res (δ × SE)} (h : Sim (bnd (f env) fun a e1 => bnd (rng1R a e1) g) m k x) : Sim (bnd (fRng1 f env) g) m k x := by
  have e : fRng1 f env = bnd (f env) fun a e1 => rng1R a e1 := rfl
  rw [e]; simpa only [bnd_assoc] using h
theorem c_rng2 {f : EFs} {g : (List PyData × List Nat) → SE → Res (δ × SE)} (h : Sim (bnd (f env) fun a e1 => bnd (rng2R a e1) g) m k x) : Sim (bnd (fRng2 f env) g) m k x := by
  have e : fRng2 f env = bnd (f env) fun a e1 => rng2R a e1 := rfl
  rw [e]; simpa only [bnd_assoc] using h
theorem c_zip {f : CFs} {g : (List PyData × List Nat) → SE → Res (δ × SE)} (h : Sim (bnd (f env) fun a e1 => bnd (zip0R a e1) g) m k x) : Sim (bnd (fZip f env) g) m k x := by
  have e : fZip f env = bnd (f env) fun a e1 => zip0R a e1 := rfl
  rw [e]; simpa only [bnd_assoc] using h
theorem c_zipM {f : CFs} {g : (List PyData × List Nat) → SE → Res (δ × SE)} (h : Sim (bnd (f env) fun a e1 => bnd (zipR a e1) g) m k x) : Sim (bnd (fZipM f env) g) m k x := by
  have e : fZipM f env = bnd (f env) fun a e1 => zipR a e1 := rfl
  rw [e]; simpa only [bnd_assoc] using h
/-! statements -/
theorem c_seqS {a t : SF} {m : M α} {k : α → Fl → SE → Prop} (h : Sim (bnd (a env) (seqK t)) m k x) : Sim (fSeqS a t env) m k x := by
  have e : fSeqS a t env = bnd (a env) (seqK t) := rfl
  rw [e]; exact h
theorem c_set {i : Nat} {f : EF} {g : Fl → SE → Res (δ × SE)} (h : Sim (bnd (f env) fun r e1 => bnd (asgR i r e1) g) m k x) : Sim (bnd (fSet i f env) g) m k x := by
  have e : fSet i f env = bnd (f env) fun r e1 => asgR i r e1 := rfl
  rw [e]; simpa only [bnd_assoc] using h
theorem c_frz {i : Nat} {f : SF} {g : Fl → SE → Res (δ × SE)} (h : Sim (bnd (f env) fun r e1 => bnd (frzK i r e1) g) m k x) : Sim (bnd (fFrzS i f env) g) m k x := by
  have e : fFrzS i f env = bnd (f env) fun r e1 => frzK i r e1 := rfl
  rw [e]; simpa only [bnd_assoc] using h
theorem c_par {i j : Nat} {f : EFs} {g : Fl → SE → Res (δ × SE)} (h : Sim (bnd (f env) fun r e1 => bnd (parR i j r e1) g) m k x) : Sim (bnd (fPar i j f env) g) m k x := by
  have e : fPar i j f env = bnd (f env) fun r e1 => parR i j r e1 := rfl
  rw [e]; simpa only [bnd_assoc] using h
theorem c_bindS {b : BF} {f : CF} {g : Fl → SE → Res (δ × SE)} (h : Sim (bnd (f env) fun r e1 => bnd (bindR b r e1) g) m k x) : Sim (bnd (fBind b f env) g) m k x := by
  have e : fBind b f env = bnd (f env) fun r e1 => bindR b r e1 := rfl
  rw [e]; simpa only [bnd_assoc] using h
theorem c_setIx {fo : EF} {fi fv : CF} {g : Fl → SE → Res (δ × SE)} (h : Sim (bnd (fv env) fun p e1 => bnd (fo e1) fun q e2 => bnd (fi e2) fun r e3 => bnd (setIxR p q r e3) g) m k x) : Sim (bnd (fSetIx fo fi fv env) g) m k x := by
  have e : fSetIx fo fi fv env = bnd (fv env) fun p e1 => bnd (fo e1) fun q e2 => bnd (fi e2) fun r e3 => setIxR p q r e3 := rfl
  rw [e]; simpa only [bnd_assoc] using h
theorem c_ifS {c : TF} {a b : SF} {g : Fl → SE → Res (δ × SE)} (h : Sim (bnd (c env) fun t e1 => bnd (if t = true then a e1 else b e1) g) m k x) : Sim (bnd (fIfS c a b env) g) m k x := by
  have e : fIfS c a b env = bnd (c env) fun t e1 => if t = true then a e1 else b e1 := rfl
  rw [e]; simpa only [bnd_assoc] using h
theorem c_ret {f : EF} {g : Fl → SE → Res (δ × SE)} (h : Sim (bnd (f env) fun r e1 => bnd (retR r e1) g) m k x) : Sim (bnd (fRet f env) g) m k x := by
  have e : fRet f env = bnd (f env) fun r e1 => retR r e1 := rfl
  rw [e]; simpa only [bnd_assoc] using h
theorem c_expr {f : EF} {g : Fl → SE → Res (δ × SE)} (h : Sim (bnd (f env) fun r e1 => g .nx e1) m k x) : Sim (bnd (fExpr f env) g) m k x := by
  have e : fExpr f env = bnd (f env) fun r e1 => .ok (.nx, e1) := rfl
  rw [e]; simpa only [bnd_assoc, bnd_ok] using h
theorem c_for {fi : IF} {b : BF} {body : SF} {g : Fl → SE → Res (δ × SE)} (h : Sim (bnd (fi env) fun it e1 => bnd (forR b body it e1) g) m k x) : Sim (bnd (fFor fi b body env) g) m k x := by
  have e : fFor fi b body env = bnd (fi env) fun it e1 => forR b body it e1 := rfl
  rw [e]; simpa only [bnd_assoc] using h
end
end BH

set_option maxRecDepth 100000
set_option maxHeartbeats 2000000
namespace BH
open PySem PySem.Spec PyProof.Rows L2
/-! ### how data is written -/
section
variable {α β γ : Type}
def eT (e : α → PyData) (xs : List α) : PyData := .tuple (xs.map e)
def eL (e : α → PyData) (xs : List α) : PyData := .list (xs.map e)
def eP (e : α → PyData) (f : β → PyData) (p : α × β) : PyData := .tuple [e p.1, f p.2]
def eP3 (e : α → PyData) (f : β → PyData) (h : γ → PyData) (p : α × β × γ) : PyData := .tuple [e p.1, f p.2.1, h p.2.2]
def eO (e : α → PyData) : Option α → PyData
  | none => .none
  | some a => e a
def eU (_ : Unit) : PyData := .none
/-- data that are told apart -/
structure EqT [DecidableEq α] (e : α → PyData) (d : Nat) : Prop where
  eqv : ∀ a b, PyData.eqv (e a) (e b) = decide (a = b)
  lay : ∀ a, (e a).canLay0 = true
  dep : ∀ a, (e a).depth ≤ d
def eqD [DecidableEq α] (a b : α) : Bool := decide (a = b)
def memD [DecidableEq α] (a : α) (xs : List α) : Bool := xs.any fun y => decide (y = a)
@[simp] theorem eqD_true [DecidableEq α] {a b : α} : eqD a b = true ↔ a = b := by simp [eqD]
@[simp] theorem eqD_false [DecidableEq α] {a b : α} : eqD a b = false ↔ a ≠ b := by simp [eqD]
@[simp] theorem memD_true [DecidableEq α] {a : α} {xs : List α} : memD a xs = true ↔ a ∈ xs := by
  simp [memD]
@[simp] theorem memD_false [DecidableEq α] {a : α} {xs : List α} : memD a xs = false ↔ a ∉ xs := by
  rw [Bool.eq_false_iff, ne_eq, memD_true]
theorem EqT.I : EqT PyData.int 0 := ⟨fun a b => by simp [PyData.eqv]; rfl, fun a => by simp [PyData.canLay0], fun a => by simp [PyData.depth]⟩
theorem EqT.B : EqT PyData.bool 0 := ⟨fun a b => by simp [PyData.eqv]; rfl, fun a => by simp [PyData.canLay0], fun a => by simp [PyData.depth]⟩
theorem EqT.U : EqT eU 0 := ⟨fun a b => by simp [eU, PyData.eqv], fun a => by simp [eU, PyData.canLay0], fun a => by simp [eU, PyData.depth]⟩
theorem EqT.all [DecidableEq α] {e : α → PyData} {d : Nat} (h : EqT e d) : ∀ (xs ys : List α), PyData.eqvAll (xs.map e) (ys.map e) = decide (xs = ys)
  | [], [] => by simp [PyData.eqvAll]
  | [], y :: ys => by simp [PyData.eqvAll]
  | x :: xs, [] => by simp [PyData.eqvAll]
  | x :: xs, y :: ys => by simp only [List.map_cons, PyData.eqvAll, h.eqv, EqT.all h xs ys, List.cons.injEq, Bool.decide_and]
theorem EqT.layAll [DecidableEq α] {e : α → PyData} {d : Nat} (h : EqT e d) : ∀ xs : List α, PyData.canLayAll0 (xs.map e) = true
  | [] => by simp [PyData.canLayAll0]
  | x :: xs => by simp [PyData.canLayAll0, h.lay, EqT.layAll h xs]
theorem EqT.depAll [DecidableEq α] {e : α → PyData} {d : Nat} (h : EqT e d) : ∀ xs : List α, PyData.depthAll (xs.map e) ≤ d
  | [] => by simp [PyData.depthAll]
  | x :: xs => by
    have := h.dep x
    have := EqT.depAll h xs
    simp only [List.map_cons, PyData.depthAll]; omega
theorem EqT.T [DecidableEq α] {e : α → PyData} {d : Nat} (h : EqT e d) : EqT (eT e) (d + 1) :=
  ⟨fun a b => by simp only [eT, PyData.eqv, h.all], fun a => by simp only [eT, PyData.canLay0, h.layAll], fun a => by have := h.depAll a; simp only [eT, PyData.depth]; omega⟩
theorem EqT.L [DecidableEq α] {e : α → PyData} {d : Nat} (h : EqT e d) : EqT (eL e) (d + 1) :=
  ⟨fun a b => by simp only [eL, PyData.eqv, h.all], fun a => by simp only [eL, PyData.canLay0, h.layAll], fun a => by have := h.depAll a; simp only [eL, PyData.depth]; omega⟩
theorem EqT.P [DecidableEq α] [DecidableEq β] {e : α → PyData} {f : β → PyData} {d d' : Nat} (h : EqT e d) (h' : EqT f d') : EqT (eP e f) (max d d' + 1) :=
  ⟨fun a b => by
      obtain ⟨a1, a2⟩ := a; obtain ⟨b1, b2⟩ := b
      simp only [eP, PyData.eqv, PyData.eqvAll, h.eqv, h'.eqv, Bool.and_true, Prod.mk.injEq, Bool.decide_and],
    fun a => by simp only [eP, PyData.canLay0, PyData.canLayAll0, h.lay, h'.lay, Bool.and_self],
    fun a => by have := h.dep a.1; have := h'.dep a.2; simp only [eP, PyData.depth, PyData.depthAll]; omega⟩
theorem EqT.P3 [DecidableEq α] [DecidableEq β] [DecidableEq γ] {e : α → PyData} {f : β → PyData} {g : γ → PyData} {d d' d'' : Nat} (h : EqT e d) (h' : EqT f d') (h'' : EqT g d'') : EqT (eP3 e f g) (max d (max d' d'') + 1) :=
  ⟨fun a b => by
      obtain ⟨a1, a2, a3⟩ := a; obtain ⟨b1, b2, b3⟩ := b
      simp only [eP3, PyData.eqv, PyData.eqvAll, h.eqv, h'.eqv, h''.eqv, Bool.and_true, Prod.mk.injEq, Bool.decide_and],
    fun a => by simp only [eP3, PyData.canLay0, PyData.canLayAll0, h.lay, h'.lay, h''.lay, Bool.and_self],
    fun a => by have := h.dep a.1; have := h'.dep a.2.1; have := h''.dep a.2.2; simp only [eP3, PyData.depth, PyData.depthAll]; omega⟩
/-- never None -/
def NoN (e : α → PyData) : Prop := ∀ a, PyData.eqv .none (e a) = false ∧ PyData.eqv (e a) .none = false
theorem NoN.T {e : α → PyData} : NoN (eT e) := fun a => by simp [eT, PyData.eqv]
theorem NoN.L {e : α → PyData} : NoN (eL e) := fun a => by simp [eL, PyData.eqv]
theorem NoN.P {e : α → PyData} {f : β → PyData} : NoN (eP e f) := fun a => by simp [eP, PyData.eqv]
theorem NoN.P3 {e : α → PyData} {f : β → PyData} {g : γ → PyData} : NoN (eP3 e f g) := fun a => by simp [eP3, PyData.eqv]
theorem NoN.I : NoN PyData.int := fun a => by simp [PyData.eqv]
theorem NoN.B : NoN PyData.bool := fun a => by simp [PyData.eqv]
theorem EqT.O [DecidableEq α] {e : α → PyData} {d : Nat} (h : EqT e d) (hn : NoN e) : EqT (eO e) d :=
  ⟨fun a b => by
      cases a <;> cases b
      · simp [eO, PyData.eqv]
      · simp [eO, (hn _).1]
      · simp [eO, (hn _).2]
      · simp [eO, h.eqv],
    fun a => by cases a <;> simp [eO, h.lay, PyData.canLay0],
    fun a => by
      cases a with
      | none => simp [eO, PyData.depth]
      | some a => exact h.dep a⟩
theorem EqT.shaped [DecidableEq α] {e : α → PyData} {d : Nat} (h : EqT e d) (hd : d ≤ 64) (a : α) : SeqAt.shaped (e a) = true := by
  unfold SeqAt.shaped
  rw [h.lay, Bool.true_and]
  exact decide_eq_true (Nat.le_trans (h.dep a) hd)
end
/-! ### operations that may fail -/
section
variable {α β γ : Type}
@[irreducible] def ixM (xs : List α) (i : Int) : M α := match atI xs i with
  | some a => .ok a
  | none => .fail
@[irreducible] def mulM (i j : Int) : M Int := if mulG i j then .ok (i * j) else .fail
@[irreducible] def divM (i j : Int) : M Int := if divG j then .ok (i / j) else if divN j then .ok (i.fdiv j) else .fail
@[irreducible] def modM (i j : Int) : M Int := if 0 < j then .ok (i % j) else if j ≠ 0 then .ok (i.fmod j) else .fail
@[irreducible] def powM (i j : Int) : M Int := if powG i j then .ok (i ^ j.toNat) else .fail
@[irreducible] def lenG (xs : List α) : M (List α) := if xs.length ≤ lim then .ok xs else .fail
@[irreducible] def extM (f : Int → Int → Int) (xs : List Int) : M Int := match xs with
  | [] => .fail
  | n :: ns => .ok (ns.foldl f n)
def rangeZ (lo : Int) (n : Nat) : List Int := (List.range n).map fun i => lo + (i : Nat)
@[irreducible] def range1M (j : Int) : M (List Int) := if rngG j then .ok (rangeZ 0 j.toNat) else .fail
@[irreducible] def range2M (i j : Int) : M (List Int) := if rngG i ∧ rngG j then .ok (rangeZ i (j - i).toNat) else .fail
@[irreducible] def reprM (d : PyData) : M Str := if reprOk d then .ok d.shown else .fail
@[irreducible] def setM (xs : List α) (i : Int) (a : α) : M (List α) := match ixN xs.length i with
  | some n => .ok (xs.set n a)
  | none => .fail
@[irreducible] def appM (xs : List α) (a : α) : M (List α) := if xs.length < lim then .ok (xs ++ [a]) else .fail
@[irreducible] def popM (xs : List α) (i : Int) : M (α × List α) := if -(2 ^ 63) ≤ i ∧ i < 2 ^ 63 then match ixN xs.length i with
    | some k => match xs[k]? with
      | some y => .ok (y, xs.eraseIdx k)
      | none => .fail
    | none => .fail
  else .fail
/-- an operator against it -/
def OpS (o : Option RV) (m : M α) (k : α → RV) : Prop := match m with
  | .ok a => o = some (k a)
  | .exc _ _ => False
  | .fail => True
theorem atI_map (f : α → β) (xs : List α) (i : Int) : atI (xs.map f) i = (atI xs i).map f := by
  unfold atI
  rw [List.length_map]
  cases ixN xs.length i with
  | none => rfl
  | some n => simp
theorem cutD_map (f : α → β) (xs : List α) (lo hi : Option Int) : cutD (xs.map f) lo hi = (cutD xs lo hi).map f := by
  simp [cutD, List.map_take, List.map_drop]
theorem ixS {e : α → PyData} {x : PyData} {xs : List α} {i : Int} (h : itemsOf x = some (xs.map e)) : OpS (opIx x (.int i)) (ixM xs i) fun a => .d (e a) := by
  have : opIx x (.int i) = (atI (xs.map e) i).map .d := by
    cases x <;> simp only [itemsOf, Option.some.injEq, reduceCtorEq] at h <;> subst h <;> rfl
  rw [this, atI_map]
  unfold ixM
  cases atI xs i <;> simp [OpS]
theorem mulS {i j : Int} : OpS (opMul (.int i) (.int j)) (mulM i j) fun v => .d (.int v) := by
  have : opMul (.int i) (.int j) = if mulG i j then some (.d (.int (i * j))) else none := rfl
  rw [this]; unfold mulM; split <;> simp [OpS]
theorem divS {i j : Int} : OpS (opDiv (.int i) (.int j)) (divM i j) fun v => .d (.int v) := by
  have : opDiv (.int i) (.int j) = if divG j then some (.d (.int (i / j))) else if divN j then some (.d (.int (i.fdiv j))) else none := rfl
  rw [this]; unfold divM; split
  · simp [OpS]
  · split <;> simp [OpS]
theorem modS {i j : Int} : OpS (opMod (.int i) (.int j)) (modM i j) fun v => .d (.int v) := by
  have : opMod (.int i) (.int j) = if 0 < j then some (.d (.int (i % j))) else if j ≠ 0 then some (.d (.int (i.fmod j))) else none := rfl
  rw [this]; unfold modM; split
  · simp [OpS]
  · split <;> simp [OpS]
theorem powS {i j : Int} : OpS (opPow (.int i) (.int j)) (powM i j) fun v => .d (.int v) := by
  have : opPow (.int i) (.int j) = if powG i j then some (.d (.int (i ^ j.toNat))) else none := rfl
  rw [this]; unfold powM; split <;> simp [OpS]
theorem reprS {d : PyData} : OpS (opReprA [d]) (reprM d) fun v => .d (.str v) := by
  have : opReprA [d] = if reprOk d then some (.d (.str d.shown)) else none := rfl
  rw [this]; unfold reprM; split <;> simp [OpS]
def absZ (i : Int) : Int := if i < 0 then -i else i
def b2i (b : Bool) : Int := if b then 1 else 0
def max2 (i j : Int) : Int := if j > i then j else i
def min2 (i j : Int) : Int := if j < i then j else i
@[simp] theorem absZ_eq (i : Int) : absZ i = (i.natAbs : Int) := by unfold absZ; split <;> omega
@[simp] theorem max2_eq (i j : Int) : max2 i j = max i j := by unfold max2; split <;> omega
@[simp] theorem min2_eq (i j : Int) : min2 i j = min i j := by unfold min2; split <;> omega
theorem lenT {e : α → PyData} {xs : List α} : opLen [eT e xs] = some (.d (.int xs.length)) := by simp [opLen, eT]
theorem lenL {e : α → PyData} {xs : List α} : opLen [eL e xs] = some (.d (.int xs.length)) := by simp [opLen, eL]
theorem sumL {ns : List Int} : opSum [eL PyData.int ns] = some (.d (.int ns.sum)) := by simp [opSum, eL]
theorem anyL {bs : List Bool} : opAny [eL PyData.bool bs] = some (.d (.bool (bs.any id))) := by simp only [opAny, eL, boolsOf_bools, Option.map]
theorem allL {bs : List Bool} : opAll [eL PyData.bool bs] = some (.d (.bool (bs.all id))) := by simp only [opAll, eL, boolsOf_bools, Option.map]
theorem extS {f : Int → Int → Int} {x : PyData} {xs : List Int} (h : itemsOf x = some (xs.map PyData.int)) : OpS (opExt f [x]) (extM f xs) fun v => .d (.int v) := by
  simp only [opExt, h, intsOf_ints]
  cases xs <;> simp [OpS, extM]
theorem mul_litR {i j : Int} (h : -(2 ^ 64) < j ∧ j < 2 ^ 64) : opMul (.int i) (.int j) = some (.d (.int (i * j))) := if_pos (.inl (.inr h))
theorem mul_litL {i j : Int} (h : -(2 ^ 64) < i ∧ i < 2 ^ 64) : opMul (.int i) (.int j) = some (.d (.int (i * j))) := if_pos (.inl (.inl h))
theorem div_lit {i j : Int} (h : divG j) : opDiv (.int i) (.int j) = some (.d (.int (i / j))) := if_pos h
theorem mod_lit {i j : Int} (h : 0 < j) : opMod (.int i) (.int j) = some (.d (.int (i % j))) := if_pos h
theorem pow_lit {i j : Int} (h : powG i j) : opPow (.int i) (.int j) = some (.d (.int (i ^ j.toNat))) := if_pos h
theorem catT {e : α → PyData} {xs ys : List α} : OpS (opAdd (eT e xs) (eT e ys)) (lenG (xs ++ ys)) fun v => .d (eT e v) := by
  unfold lenG; simp only [eT, opAdd, List.length_map, List.length_append]; split <;> simp [OpS, eT]
theorem catL {e : α → PyData} {xs ys : List α} : OpS (opAdd (eL e xs) (eL e ys)) (lenG (xs ++ ys)) fun v => .tmp (.lst (v.map e)) := by
  unfold lenG; simp only [eL, opAdd, List.length_map, List.length_append]; split <;> simp [OpS]
theorem eq_t [DecidableEq α] {e : α → PyData} {d : Nat} (h : EqT e d) (hd : d ≤ 64) {a b : α} : opEq false (e a) (e b) = some (.d (.bool (eqD a b))) := by
  simp [opEq, h.shaped hd, h.eqv, eqD]
theorem ne_t [DecidableEq α] {e : α → PyData} {d : Nat} (h : EqT e d) (hd : d ≤ 64) {a b : α} : opEq true (e a) (e b) = some (.d (.bool (!eqD a b))) := by
  simp [opEq, h.shaped hd, h.eqv, eqD]
theorem mem_any [DecidableEq α] {e : α → PyData} {d : Nat} (h : EqT e d) (a : α) (ys : List α) : ((ys.map e).any fun y => PyData.eqv y (e a)) = memD a ys := by
  unfold memD
  induction ys with
  | nil => rfl
  | cons y ys ih => simp [ih, h.eqv]
theorem in_t [DecidableEq α] {e : α → PyData} {d : Nat} (h : EqT e d) (hd : d + 1 ≤ 64) {a : α} {ys : List α} {y : PyData} (hy : y = eT e ys ∨ y = eL e ys) : opIn false (e a) y = some (.d (.bool (memD a ys))) := by
  rcases hy with rfl | rfl
  · have q : SeqAt.shaped (.tuple (ys.map e)) = true := h.T.shaped hd ys
    simp only [eT, opIn, h.shaped (Nat.le_of_succ_le hd), q, Bool.and_self, if_true, mem_any h]; rfl
  · have q : SeqAt.shaped (.list (ys.map e)) = true := h.L.shaped hd ys
    simp only [eL, opIn, h.shaped (Nat.le_of_succ_le hd), q, Bool.and_self, if_true, mem_any h]; rfl
theorem notin_t [DecidableEq α] {e : α → PyData} {d : Nat} (h : EqT e d) (hd : d + 1 ≤ 64) {a : α} {ys : List α} {y : PyData} (hy : y = eT e ys ∨ y = eL e ys) : opIn true (e a) y = some (.d (.bool (!memD a ys))) := by
  rcases hy with rfl | rfl
  · have q : SeqAt.shaped (.tuple (ys.map e)) = true := h.T.shaped hd ys
    simp only [eT, opIn, h.shaped (Nat.le_of_succ_le hd), q, Bool.and_self, if_true, mem_any h]
  · have q : SeqAt.shaped (.list (ys.map e)) = true := h.L.shaped hd ys
    simp only [eL, opIn, h.shaped (Nat.le_of_succ_le hd), q, Bool.and_self, if_true, mem_any h]
def isSomeD (o : Option α) : Bool := o.isSome
theorem is_none {e : α → PyData} (hn : NoN e) {o : Option α} : opIs false (eO e o) .none = some (.d (.bool o.isNone)) := by
  cases o with
  | none => rfl
  | some a =>
    have := (hn a).2
    show opIs false (e a) .none = _
    cases h : e a <;> first | rfl | (rw [h] at this; simp [PyData.eqv] at this)
theorem isnot_none {e : α → PyData} (hn : NoN e) {o : Option α} : opIs true (eO e o) .none = some (.d (.bool o.isSome)) := by
  cases o with
  | none => rfl
  | some a =>
    have := (hn a).2
    show opIs true (e a) .none = _
    cases h : e a <;> first | rfl | (rw [h] at this; simp [PyData.eqv] at this)
end
end BH

set_option maxRecDepth 100000
set_option maxHeartbeats 2000000
namespace BH
open PySem PySem.Spec PyProof.Rows L2
/-! ### slots -/
def datO (o : Option MV) : Prop := o = none ∨ ∃ x, o = some (.d x)
theorem datO_none : datO none := .inl rfl
theorem datO_d {x : PyData} : datO (some (.d x)) := .inr ⟨x, rfl⟩
theorem datO.ok {o : Option MV} (h : datO o) : okO o := by
  rcases h with rfl | ⟨x, rfl⟩ <;> exact trivial
theorem setS_ok {env e' : SE} {i : Nat} {mv : MV} {o : Option MV} (h : env[i]? = some o) (ho : okO o) (he : env.set i (some mv) = e') : setS env i mv = some e' := by
  rw [setS_def, h]; simp only [setO_ok ho, he]
theorem bn {env e' : SE} {i : Nat} {v : PyData} {o : Option MV} (h : env[i]? = some o) (ho : okO o) (he : env.set i (some (.d v)) = e') : bName i v env = some e' := setS_ok h ho he
theorem bt_nil {env : SE} : bNil [] env = some env := rfl
theorem bt_cons {b : BF} {t : BFs} {v : PyData} {vs : List PyData} {env e1 e2 : SE} (h : b v env = some e1) (ht : t vs e1 = some e2) : bCons b t (v :: vs) env = some e2 := by
  simp only [bCons, h, ht]
theorem bt_tup {t : BFs} {v : PyData} {ds : List PyData} {env e1 : SE} (hv : v = .tuple ds) (h : t ds env = some e1) : bTup t v env = some e1 := by subst hv; exact h
theorem nc_nil {env : SE} : noCell env [] = true := rfl
theorem nc_cons {env : SE} {v : Nat} {vs : List Nat} {o : Option MV} (h : env[v]? = some o) (ho : datO o) (t : noCell env vs = true) : noCell env (v :: vs) = true := by
  have : noCell env (v :: vs) = ((match env[v]? with | some (some (.cell _ _)) => false | _ => true) && noCell env vs) := rfl
  rw [this, h, t, Bool.and_true]
  rcases ho with rfl | ⟨x, rfl⟩ <;> rfl
/-! ### blocks -/
section
variable {α δ : Type} {env : SE} {m : M α} {k : α → δ → SE → Prop} {x : SE → Prop}
theorem c_blk {s r : SF} {g : Fl → SE → Res (δ × SE)} (h : Sim (bnd (s env) fun fl e => bnd (seqK r fl e) g) m k x) : Sim (bnd (fSeqS s r env) g) m k x := by
  have e : fSeqS s r env = bnd (s env) (seqK r) := rfl
  rw [e, bnd_assoc]; exact h
theorem c_blk1 {s r : SF} {g : Fl → SE → Res (δ × SE)} (h : Sim (bnd (s env) fun fl e => bnd (seqK r fl e) g) m k x) : Sim (bnd (seqK (fSeqS s r) .nx env) g) m k x := c_blk h
theorem c_end {g : Fl → SE → Res (δ × SE)} (h : Sim (g .nx env) m k x) : Sim (bnd (fNextS env) g) m k x := h
theorem c_end1 {g : Fl → SE → Res (δ × SE)} (h : Sim (g .nx env) m k x) : Sim (bnd (seqK fNextS .nx env) g) m k x := h
end
/-! ### the steps' ends -/
section
variable {α β γ δ σ τ : Type} {env e' : SE} {m : M α} {k : α → δ → SE → Prop} {x : SE → Prop}
theorem b_pure {op : PyData → PyData → Option RV} {a b r : RV} {u v : PyData} {g : RV → SE → Res (δ × SE)} (hx : a.view env = some u) (hy : b.view env = some v) (ho : op u v = some r) (hg : Sim (g r env) m k x) : Sim (bnd (binR op a b env) g) m k x := by
  have : binR op a b env = .ok (r, env) := by simp only [binR, hx, hy, ho]
  rw [this]; exact hg
theorem b_part {op : PyData → PyData → Option RV} {a b : RV} {u v : PyData} {m1 : M γ} {k1 : γ → RV} {m2 : γ → M α} {g : RV → SE → Res (δ × SE)} (hx : a.view env = some u) (hy : b.view env = some v) (ho : OpS (op u v) m1 k1) (hg : ∀ v, Sim (g (k1 v) env) (m2 v) k x) : Sim (bnd (binR op a b env) g) (m1 >>= m2) k x := by
  cases m1 with
  | ok w => exact b_pure hx hy ho (hg w)
  | exc c fs => exact False.elim ho
  | fail => exact trivial
theorem n_pure {a : RV} {i : Int} {g : RV → SE → Res (δ × SE)} (hx : a.view env = some (.int i)) (hg : Sim (g (.d (.int (-i))) env) m k x) : Sim (bnd (negR a env) g) m k x := by
  have : negR a env = .ok (.d (.int (-i)), env) := by simp only [negR, hx]
  rw [this]; exact hg
theorem t_pure {a : RV} {v : PyData} {g : PyData → SE → Res (δ × SE)} (h : a.take env = some (v, e')) (hg : Sim (g v e') m k x) : Sim (bnd (takeR a env) g) m k x := by
  have : takeR a env = .ok (v, e') := by simp only [takeR, h]
  rw [this]; exact hg
theorem tu_pure {xs : List PyData} {v : PyData} {g : RV → SE → Res (δ × SE)} (h : Nat.ble xs.length 64 = true) (hv : PyData.tuple xs = v) (hg : Sim (g (.d v) env) m k x) : Sim (bnd (tupR xs env) g) m k x := by
  have h2 : xs.length ≤ lim := by have := Nat.le_of_ble_eq_true h; unfold lim; omega
  subst hv
  have : tupR xs env = .ok (.d (.tuple xs), env) := by simp only [tupR, h2, if_true]
  rw [this]; exact hg
theorem ls_pure {xs ys : List PyData} {g : RV → SE → Res (δ × SE)} (h : Nat.ble xs.length 64 = true) (hv : xs = ys) (hg : Sim (g (.tmp (.lst ys)) env) m k x) : Sim (bnd (lstR xs env) g) m k x := by
  have h2 : xs.length ≤ lim := by have := Nat.le_of_ble_eq_true h; unfold lim; omega
  subst hv
  have : lstR xs env = .ok (.tmp (.lst xs), env) := by simp only [lstR, h2, if_true]
  rw [this]; exact hg
theorem cb_pure {op : List PyData → Option RV} {rs : List RV} {xs : List PyData} {r : RV} {g : RV → SE → Res (δ × SE)} (hv : views rs env = some xs) (ho : op xs = some r) (hg : Sim (g r env) m k x) : Sim (bnd (callBR op rs env) g) m k x := by
  have : callBR op rs env = .ok (r, env) := by simp only [callBR, hv, ho]
  rw [this]; exact hg
theorem cb_part {op : List PyData → Option RV} {rs : List RV} {xs : List PyData} {m1 : M γ} {k1 : γ → RV} {m2 : γ → M α} {g : RV → SE → Res (δ × SE)} (hv : views rs env = some xs) (ho : OpS (op xs) m1 k1) (hg : ∀ v, Sim (g (k1 v) env) (m2 v) k x) : Sim (bnd (callBR op rs env) g) (m1 >>= m2) k x := by
  cases m1 with
  | ok w => exact cb_pure hv ho (hg w)
  | exc c fs => exact False.elim ho
  | fail => exact trivial
theorem sl_pure {a r : RV} {v : PyData} {lo hi : Option Int} {g : RV → SE → Res (δ × SE)} (hv : a.view env = some v) (ho : opSl v lo hi = some r) (hg : Sim (g r env) m k x) : Sim (bnd (slR a lo hi env) g) m k x := by
  have : slR a lo hi env = .ok (r, env) := by simp only [slR, hv, ho]
  rw [this]; exact hg
theorem slT {e : β → PyData} {xs : List β} {lo hi : Option Int} : opSl (eT e xs) lo hi = some (.d (eT e (cutD xs lo hi))) := by simp only [eT, opSl, cutD_map]
theorem slL {e : β → PyData} {xs : List β} {lo hi : Option Int} : opSl (eL e xs) lo hi = some (.tmp (.lst ((cutD xs lo hi).map e))) := by simp only [eL, opSl, cutD_map]
theorem pt_pure {a : RV} {i : Int} {g : Option Int → SE → Res (δ × SE)} (hv : a.view env = some (.int i)) (hg : Sim (g (some i) env) m k x) : Sim (bnd (partR a env) g) m k x := by
  have : partR a env = .ok (some i, env) := by simp only [partR, hv]
  rw [this]; exact hg
theorem isa_pure {op : PyData → Bool} {a : RV} {v : PyData} {g : RV → SE → Res (δ × SE)} (hv : a.view env = some v) (hg : Sim (g (.d (.bool (op v))) env) m k x) : Sim (bnd (isaR op a env) g) m k x := by
  have : isaR op a env = .ok (.d (.bool (op v)), env) := by simp only [isaR, hv]
  rw [this]; exact hg
theorem sq_T {a : RV} {ds : List PyData} {g : (List PyData × List Nat) → SE → Res (δ × SE)} (hv : a.view env = some (.tuple ds)) (hg : Sim (g (ds, []) env) m k x) : Sim (bnd (seqR a env) g) m k x := by
  have : seqR a env = .ok ((ds, []), env) := by simp only [seqR, hv]
  rw [this]; exact hg
theorem sq_L {a : RV} {ds : List PyData} {lk : List Nat} {g : (List PyData × List Nat) → SE → Res (δ × SE)} (hv : a.view env = some (.list ds)) (hl : lkOf a env = lk) (hg : Sim (g (ds, lk) env) m k x) : Sim (bnd (seqR a env) g) m k x := by
  have : seqR a env = .ok ((ds, lk), env) := by simp only [seqR, hv, hl]
  rw [this]; exact hg
theorem zipD_map (e : β → PyData) (f : γ → PyData) : ∀ (xs : List β) (ys : List γ), zipD (xs.map e) (ys.map f) = (List.zip xs ys).map (eP e f)
  | [], _ => by simp [zipD]
  | _ :: _, [] => by simp [zipD]
  | x :: xs, y :: ys => by
    have := zipD_map e f xs ys
    simp only [zipD] at this
    simp [zipD, this, eP]
theorem z_pure {e : β → PyData} {f : γ → PyData} {xs : List β} {ys : List γ} {u v : PyData} {g : (List PyData × List Nat) → SE → Res (δ × SE)} (h1 : itemsOf u = some (xs.map e)) (h2 : itemsOf v = some (ys.map f)) (hg : Sim (g ((List.zip xs ys).map (eP e f), []) env) m k x) : Sim (bnd (zipR [u, v] env) g) m k x := by
  have : zipR [u, v] env = .ok (((List.zip xs ys).map (eP e f), []), env) := by simp only [zipR, h1, h2, zipD_map]
  rw [this]; exact hg
theorem z0_T {e : β → PyData} {f : γ → PyData} {xs : List β} {ys : List γ} {g : (List PyData × List Nat) → SE → Res (δ × SE)} (hg : Sim (g ((List.zip xs ys).map (eP e f), []) env) m k x) : Sim (bnd (zip0R [eT e xs, eT f ys] env) g) m k x := by
  have : zip0R [eT e xs, eT f ys] env = .ok (((List.zip xs ys).map (eP e f), []), env) := by simp only [zip0R, eT, zipD_map]
  rw [this]; exact hg
theorem z0_L {e : β → PyData} {f : γ → PyData} {xs : List β} {ys : List γ} {g : (List PyData × List Nat) → SE → Res (δ × SE)} (hg : Sim (g ((List.zip xs ys).map (eP e f), []) env) m k x) : Sim (bnd (zip0R [eL e xs, eL f ys] env) g) m k x := by
  have : zip0R [eL e xs, eL f ys] env = .ok (((List.zip xs ys).map (eP e f), []), env) := by simp only [zip0R, eL, zipD_map]
  rw [this]; exact hg
theorem rangeD_map (lo : Int) (n : Nat) : rangeD lo n = (rangeZ lo n).map PyData.int := by simp [rangeD, rangeZ]
theorem r1_part {rs : List RV} {j : Int} {m2 : List Int → M α} {g : (List PyData × List Nat) → SE → Res (δ × SE)} (hv : views rs env = some [.int j]) (hg : ∀ xs : List Int, Sim (g (xs.map .int, []) env) (m2 xs) k x) : Sim (bnd (rng1R rs env) g) (range1M j >>= m2) k x := by
  unfold range1M
  by_cases h : rngG j
  · rw [if_pos h]
    have : rng1R rs env = .ok (((rangeZ 0 j.toNat).map .int, []), env) := by simp only [rng1R, hv, h, if_true, rangeD_map]
    rw [this]; exact hg _
  · rw [if_neg h]; exact trivial
theorem r1_lit {rs : List RV} {j : Int} {g : (List PyData × List Nat) → SE → Res (δ × SE)} (hv : views rs env = some [.int j]) (hj : rngG j) (hg : Sim (g ((rangeZ 0 j.toNat).map .int, []) env) m k x) : Sim (bnd (rng1R rs env) g) m k x := by
  have : rng1R rs env = .ok (((rangeZ 0 j.toNat).map .int, []), env) := by simp only [rng1R, hv, hj, if_true, rangeD_map]
  rw [this]; exact hg
theorem r2_part {rs : List RV} {i j : Int} {m2 : List Int → M α} {g : (List PyData × List Nat) → SE → Res (δ × SE)} (hv : views rs env = some [.int i, .int j]) (hg : ∀ xs : List Int, Sim (g (xs.map .int, []) env) (m2 xs) k x) : Sim (bnd (rng2R rs env) g) (range2M i j >>= m2) k x := by
  unfold range2M
  by_cases h : rngG i ∧ rngG j
  · rw [if_pos h]
    have : rng2R rs env = .ok (((rangeZ i (j - i).toNat).map .int, []), env) := by simp only [rng2R, hv, h, and_self, if_true, rangeD_map]
    rw [this]; exact hg _
  · rw [if_neg h]; exact trivial
theorem tr_pure {a : RV} {v : PyData} {b : Bool} {g : Bool → SE → Res (δ × SE)} (hv : a.view env = some v) (ht : truD v = some b) (hg : Sim (g b env) m k x) : Sim (bnd (truR a env) g) m k x := by
  have : truR a env = .ok (b, env) := by simp only [truR, hv, ht]
  rw [this]; exact hg
theorem truT {e : β → PyData} {xs : List β} : truD (eT e xs) = some !xs.isEmpty := by simp [eT, truD]
theorem truL {e : β → PyData} {xs : List β} : truD (eL e xs) = some !xs.isEmpty := by simp [eL, truD]
theorem as_d {i : Nat} {v : PyData} {o : Option MV} {g : Fl → SE → Res (δ × SE)} (h : env[i]? = some o) (ho : okO o) (he : env.set i (some (.d v)) = e') (hg : Sim (g .nx e') m k x) : Sim (bnd (asgR i (.d v) env) g) m k x := by
  have : asgR i (.d v) env = .ok (.nx, e') := by
    have q : asg (.d v) env i = setS env i (.d v) := rfl
    simp only [asgR, q, setS_ok h ho he]
  rw [this]; exact hg
theorem as_t {i : Nat} {c : Cell} {o : Option MV} {g : Fl → SE → Res (δ × SE)} (h : env[i]? = some o) (ho : okO o) (he : env.set i (some (.cell .own c)) = e') (hg : Sim (g .nx e') m k x) : Sim (bnd (asgR i (.tmp c) env) g) m k x := by
  have : asgR i (.tmp c) env = .ok (.nx, e') := by
    have q : asg (.tmp c) env i = setS env i (.cell .own c) := rfl
    simp only [asgR, q, setS_ok h ho he]
  rw [this]; exact hg
theorem fz_t {i : Nat} {v : PyData} {g : Fl → SE → Res (δ × SE)} (h : (RV.slot i).take env = some (v, e')) (hg : Sim (g .nx e') m k x) : Sim (bnd (frzK i .nx env) g) m k x := by
  have : frzK i .nx env = .ok (.nx, e') := by simp only [frzK, h]
  rw [this]; exact hg
theorem pa_t {i j : Nat} {r1 r2 : RV} {m1 m2 : MV} {e1 e2 : SE} {g : Fl → SE → Res (δ × SE)} (hn1 : r1.norm env = some (r1, env)) (hn2 : r2.norm env = some (r2, env)) (hm1 : r1.mv = some m1) (hm2 : r2.mv = some m2) (hs1 : setS env i m1 = some e1) (hs2 : setS e1 j m2 = some e2) (hg : Sim (g .nx e2) m k x) : Sim (bnd (parR i j [r1, r2] env) g) m k x := by
  have : parR i j [r1, r2] env = .ok (.nx, e2) := by simp only [parR, hn1, hn2, hm1, hm2, hs1, hs2]
  rw [this]; exact hg
theorem bi_t {b : BF} {v : PyData} {g : Fl → SE → Res (δ × SE)} (h : b v env = some e') (hg : Sim (g .nx e') m k x) : Sim (bnd (bindR b v env) g) m k x := by
  have : bindR b v env = .ok (.nx, e') := by simp only [bindR, h]
  rw [this]; exact hg
def Wr (md : Mode) : Bool := match md with
  | .own => true
  | .bor => true
  | .lock => false
theorem poke_ok {j : Nat} {md : Mode} {xs : List PyData} {f : List PyData → Option (List PyData)} (h : env[j]? = some (some (.cell md (.lst xs)))) (hw : Wr md = true) : pokeE env j f = (f xs).map fun ys => env.set j (some (.cell md (.lst ys))) := by
  unfold pokeE
  rw [h]
  cases md <;> first | rfl | cases hw
theorem si_t {j : Nat} {md : Mode} {e : β → PyData} {xs : List β} {a : β} {i : Int} {e2 : List β → SE} {m2 : List β → M α} {g : Fl → SE → Res (δ × SE)} (h : env[j]? = some (some (.cell md (.lst (xs.map e))))) (hw : Wr md = true) (he : ∀ ys : List β, env.set j (some (.cell md (.lst (ys.map e)))) = e2 ys) (hg : ∀ ys, Sim (g .nx (e2 ys)) (m2 ys) k x) : Sim (bnd (setIxR (e a) (.slot j) (.int i) env) g) (setM xs i a >>= m2) k x := by
  unfold setM
  cases hi : ixN xs.length i with
  | none => exact trivial
  | some n =>
    have : setIxR (e a) (.slot j) (.int i) env = .ok (.nx, e2 (xs.set n a)) := by
      simp only [setIxR, poke_ok h hw, List.length_map, hi, Option.map, ← he, List.map_set]
    rw [this]; exact hg _
def methR (j : Nat) (op : Op1) (v : PyData) (e : SE) : Res (RV × SE) := match e[j]? with
    | some (some (.cell m (.lst xs))) => match op xs v with
      | some r => match pokeE e j fun _ => some r.2 with
        | some env' => .ok (.d r.1, env')
        | none => .fail
      | none => .fail
    | _ => .fail
theorem c_meth {j : Nat} {op : Op1} {fv : CF} {md : Mode} {c : Cell} {g : RV → SE → Res (δ × SE)} (hj : env[j]? = some (some (.cell md c))) (h : Sim (bnd (fv env) fun v e1 => bnd (methR j op v e1) g) m k x) : Sim (bnd (fMeth1 j op fv env) g) m k x := by
  have e : fMeth1 j op fv env = bnd (fv env) fun v e1 => methR j op v e1 := by unfold fMeth1; rw [hj]; rfl
  rw [e]; simpa only [bnd_assoc] using h
theorem me_app {j : Nat} {md : Mode} {e : β → PyData} {xs : List β} {a : β} {e2 : List β → SE} {m2 : List β → M α} {g : RV → SE → Res (δ × SE)} (h : env[j]? = some (some (.cell md (.lst (xs.map e))))) (hw : Wr md = true) (he : ∀ ys : List β, env.set j (some (.cell md (.lst (ys.map e)))) = e2 ys) (hg : ∀ ys, Sim (g (.d .none) (e2 ys)) (m2 ys) k x) : Sim (bnd (methR j opAppend (e a) env) g) (appM xs a >>= m2) k x := by
  unfold appM
  by_cases hl : xs.length < lim
  · rw [if_pos hl]
    have : methR j opAppend (e a) env = .ok (.d .none, e2 (xs ++ [a])) := by
      unfold methR
      simp only [h, opAppend, List.length_map, hl, if_true, poke_ok h hw, Option.map, ← he, List.map_append, List.map_cons, List.map_nil]
    rw [this]; exact hg _
  · rw [if_neg hl]; exact trivial
theorem eraseIdx_map' (f : β → γ) : ∀ (xs : List β) (n : Nat), (xs.map f).eraseIdx n = (xs.eraseIdx n).map f
  | [], _ => rfl
  | _ :: _, 0 => rfl
  | x :: xs, n + 1 => by simp [eraseIdx_map' f xs n]
theorem me_pop {j : Nat} {md : Mode} {e : β → PyData} {xs : List β} {i : Int} {e2 : List β → SE} {m2 : β × List β → M α} {g : RV → SE → Res (δ × SE)} (h : env[j]? = some (some (.cell md (.lst (xs.map e))))) (hw : Wr md = true) (he : ∀ ys : List β, env.set j (some (.cell md (.lst (ys.map e)))) = e2 ys) (hg : ∀ p : β × List β, Sim (g (.d (e p.1)) (e2 p.2)) (m2 p) k x) : Sim (bnd (methR j opPopAt (.int i) env) g) (popM xs i >>= m2) k x := by
  unfold popM
  by_cases hl : -(2 ^ 63) ≤ i ∧ i < 2 ^ 63
  · rw [if_pos hl]
    cases hi : ixN xs.length i with
    | none => exact trivial
    | some n =>
      cases hn : xs[n]? with
      | none => simp only [hn]; exact trivial
      | some y =>
        have : methR j opPopAt (.int i) env = .ok (.d (e y), e2 (xs.eraseIdx n)) := by
          unfold methR
          simp only [h, opPopAt, List.length_map, hl, and_self, if_true, hi, List.getElem?_map, hn, Option.map, poke_ok h hw, ← he, eraseIdx_map']
        simp only [hn]
        rw [this]; exact hg (y, xs.eraseIdx n)
  · rw [if_neg hl]; exact trivial
theorem rt_d {v : PyData} {g : Fl → SE → Res (δ × SE)} (hg : Sim (g (.rt (.d v)) env) m k x) : Sim (bnd (retR (.d v) env) g) m k x := hg
theorem rt_t {c : Cell} {g : Fl → SE → Res (δ × SE)} (hg : Sim (g (.rt (.tmp c)) env) m k x) : Sim (bnd (retR (.tmp c) env) g) m k x := hg
theorem rt_s {i : Nat} {c : Cell} {g : Fl → SE → Res (δ × SE)} (h : env[i]? = some (some (.cell .own c))) (hg : Sim (g (.rt (.tmp c)) env) m k x) : Sim (bnd (retR (.slot i) env) g) m k x := by
  have : retR (.slot i) env = .ok (.rt (.tmp c), env) := by simp only [retR, h]
  rw [this]; exact hg
/-! ### ways -/
theorem ite_s {b : Bool} {r1 r2 : Res (δ × SE)} {m1 m2 : M α} (h1 : b = true → Sim r1 m1 k x) (h2 : b = false → Sim r2 m2 k x) : Sim (if b = true then r1 else r2) (if b = true then m1 else m2) k x := by
  cases b with
  | true => exact h1 rfl
  | false => exact h2 rfl
theorem ite_b {b : Bool} {r1 r2 : Res (β × SE)} {m1 m2 : M α} {g : β → SE → Res (δ × SE)} (h1 : b = true → Sim (bnd r1 g) m1 k x) (h2 : b = false → Sim (bnd r2 g) m2 k x) : Sim (bnd (if b = true then r1 else r2) g) (if b = true then m1 else m2) k x := by
  cases b with
  | true => exact h1 rfl
  | false => exact h2 rfl
def pureK (e0 : SE) (kk : γ → β) : γ → β → SE → Prop := fun s b e => b = kk s ∧ e = e0
theorem sim_eq {r : Res (β × SE)} {v : γ} {kk : γ → β} {e0 : SE} (h : Sim r (.ok v) (pureK e0 kk) fun _ => True) : r = .ok (kk v, e0) := by
  obtain ⟨b, e, rfl, h1, h2⟩ := h
  rw [h1, h2]
theorem and_p {a t : Bool} {f : TF} {g : Bool → SE → Res (δ × SE)} (ht : Sim (f env) (.ok t) (pureK env fun b => b) fun _ => True) (hg : Sim (g (a && t) env) m k x) : Sim (bnd (if a = true then f env else .ok (false, env)) g) m k x := by
  cases a with
  | true => rw [if_pos rfl, sim_eq ht]; exact hg
  | false => exact hg
theorem or_p {a t : Bool} {f : TF} {g : Bool → SE → Res (δ × SE)} (ht : Sim (f env) (.ok t) (pureK env fun b => b) fun _ => True) (hg : Sim (g (a || t) env) m k x) : Sim (bnd (if a = true then .ok (true, env) else f env) g) m k x := by
  cases a with
  | true => exact hg
  | false => rw [if_neg (by decide), sim_eq ht]; exact hg
theorem and_m {a : Bool} {f : TF} {mt : M Bool} {m2 : Bool → M α} {g : Bool → SE → Res (δ × SE)} (ht : Sim (f env) mt (pureK env fun b => b) x) (hg : ∀ b, Sim (g b env) (m2 b) k x) : Sim (bnd (if a = true then f env else .ok (false, env)) g) ((if a = true then mt else .ok false) >>= m2) k x := by
  refine sim_bind (k1 := pureK env fun b => b) ?_ fun s b e h => by rw [h.1, h.2]; exact hg s
  cases a with
  | true => exact ht
  | false => exact sim_ret ⟨rfl, rfl⟩
theorem or_m {a : Bool} {f : TF} {mt : M Bool} {m2 : Bool → M α} {g : Bool → SE → Res (δ × SE)} (ht : Sim (f env) mt (pureK env fun b => b) x) (hg : ∀ b, Sim (g b env) (m2 b) k x) : Sim (bnd (if a = true then .ok (true, env) else f env) g) ((if a = true then .ok true else mt) >>= m2) k x := by
  refine sim_bind (k1 := pureK env fun b => b) ?_ fun s b e h => by rw [h.1, h.2]; exact hg s
  cases a with
  | true => exact sim_ret ⟨rfl, rfl⟩
  | false => exact ht
def bKK (b : Bool) : RV := .d (.bool b)
theorem andV_p {a : RV} {c t : Bool} {f : EF} {g : RV → SE → Res (δ × SE)} (ha : a = .d (.bool c)) (ht : Sim (f env) (.ok t) (pureK env bKK) fun _ => True) (hg : Sim (g (.d (.bool (c && t))) env) m k x) : Sim (bnd (andVR f a env) g) m k x := by
  subst ha
  cases c with
  | true =>
    have : andVR f (.d (.bool true)) env = f env := rfl
    rw [this, sim_eq ht]; exact hg
  | false => exact hg
theorem orV_p {a : RV} {c t : Bool} {f : EF} {g : RV → SE → Res (δ × SE)} (ha : a = .d (.bool c)) (ht : Sim (f env) (.ok t) (pureK env bKK) fun _ => True) (hg : Sim (g (.d (.bool (c || t))) env) m k x) : Sim (bnd (orVR f a env) g) m k x := by
  subst ha
  cases c with
  | false =>
    have : orVR f (.d (.bool false)) env = f env := rfl
    rw [this, sim_eq ht]; exact hg
  | true => exact hg
theorem andV_m {a : RV} {c : Bool} {f : EF} {mt : M Bool} {m2 : Bool → M α} {g : RV → SE → Res (δ × SE)} (ha : a = .d (.bool c)) (ht : Sim (f env) mt (pureK env bKK) x) (hg : ∀ b, Sim (g (.d (.bool b)) env) (m2 b) k x) : Sim (bnd (andVR f a env) g) ((if c = true then mt else .ok false) >>= m2) k x := by
  subst ha
  refine sim_bind (k1 := pureK env bKK) ?_ fun s b e h => by rw [h.1, h.2]; exact hg s
  cases c with
  | true => exact ht
  | false => exact sim_ret ⟨rfl, rfl⟩
theorem orV_m {a : RV} {c : Bool} {f : EF} {mt : M Bool} {m2 : Bool → M α} {g : RV → SE → Res (δ × SE)} (ha : a = .d (.bool c)) (ht : Sim (f env) mt (pureK env bKK) x) (hg : ∀ b, Sim (g (.d (.bool b)) env) (m2 b) k x) : Sim (bnd (orVR f a env) g) ((if c = true then .ok true else mt) >>= m2) k x := by
  subst ha
  refine sim_bind (k1 := pureK env bKK) ?_ fun s b e h => by rw [h.1, h.2]; exact hg s
  cases c with
  | true => exact sim_ret ⟨rfl, rfl⟩
  | false => exact ht
theorem if_p {c : Bool} {r1 r2 : Res (β × SE)} {v1 v2 : γ} {kk : γ → β} {g : β → SE → Res (δ × SE)} (h1 : Sim r1 (.ok v1) (pureK env kk) fun _ => True) (h2 : Sim r2 (.ok v2) (pureK env kk) fun _ => True) (hg : Sim (g (kk (if c = true then v1 else v2)) env) m k x) : Sim (bnd (if c = true then r1 else r2) g) m k x := by
  cases c with
  | true => rw [if_pos rfl, sim_eq h1]; exact hg
  | false => rw [if_neg (by decide), sim_eq h2]; exact hg
theorem if_m {c : Bool} {r1 r2 : Res (β × SE)} {n1 n2 : M γ} {kk : γ → β} {m2 : γ → M α} {g : β → SE → Res (δ × SE)} (h1 : Sim r1 n1 (pureK env kk) x) (h2 : Sim r2 n2 (pureK env kk) x) (hg : ∀ v, Sim (g (kk v) env) (m2 v) k x) : Sim (bnd (if c = true then r1 else r2) g) ((if c = true then n1 else n2) >>= m2) k x := by
  refine sim_bind (k1 := pureK env kk) (ite_s (fun _ => h1) fun _ => h2) fun s b e h => by rw [h.1, h.2]; exact hg s
end
end BH

set_option maxRecDepth 100000
set_option maxHeartbeats 2000000
namespace BH
open PySem PySem.Spec PyProof.Rows L2
/-! ### loops, comprehensions, calls -/
section
variable {α β γ δ σ ρ : Type}
def forM' (f : α → σ → M σ) : List α → σ → M σ
  | [], s => .ok s
  | a :: as, s => f a s >>= fun s' => forM' f as s'
inductive Lp (σ ρ : Type) where
  | nx (s : σ)
  | bk (s : σ)
  | rt (r : ρ)
def forL (f : α → σ → M (Lp σ ρ)) : List α → σ → M (Lp σ ρ)
  | [], s => .ok (.nx s)
  | a :: as, s => f a s >>= fun l => match l with
    | .nx s' => forL f as s'
    | .bk s' => .ok (.nx s')
    | .rt r => .ok (.rt r)
@[irreducible] def FUEL : Nat := 10 ^ 60
def whileM (c : σ → M Bool) (f : σ → M σ) : Nat → σ → M σ
  | 0, _ => .fail
  | n + 1, s => c s >>= fun b => if b = true then f s >>= fun s' => whileM c f n s' else .ok s
def whileL (c : σ → M Bool) (f : σ → M (Lp σ ρ)) : Nat → σ → M (Lp σ ρ)
  | 0, _ => .fail
  | n + 1, s => c s >>= fun b => if b = true then f s >>= fun l => match l with
      | .nx s' => whileL c f n s'
      | .bk s' => .ok (.nx s')
      | .rt r => .ok (.rt r)
    else .ok (.nx s)
def compG (f : α → σ → M (Option β × σ)) : List α → σ → List β → M (List β × σ)
  | [], s, acc => .ok (acc, s)
  | a :: as, s, acc => match f a s with
    | .ok (some b, s') => if acc.length < lim then compG f as s' (acc ++ [b]) else .fail
    | .ok (none, s') => compG f as s' acc
    | _ => .fail
def compS (f : α → σ → M (Option β × σ)) (xs : List α) (s : σ) : M (List β × σ) := compG f xs s []
def compPG (f : α → M (Option β)) : List α → List β → M (List β)
  | [], acc => .ok acc
  | a :: as, acc => match f a with
    | .ok (some b) => if acc.length < lim then compPG f as (acc ++ [b]) else .fail
    | .ok none => compPG f as acc
    | _ => .fail
def compP (f : α → M (Option β)) (xs : List α) : M (List β) := compPG f xs []
theorem compPG_ok {f : α → M (Option β)} {g : α → Option β} : ∀ (xs : List α) (acc : List β), (∀ a ∈ xs, f a = .ok (g a)) → acc.length + (xs.filterMap g).length ≤ lim → compPG f xs acc = .ok (acc ++ xs.filterMap g)
  | [], acc, _, _ => by simp [compPG]
  | a :: as, acc, h, hl => by
    have ha := h a (by simp)
    unfold compPG
    rw [ha]
    cases hg : g a with
    | none =>
      simp only [List.filterMap_cons, hg] at hl ⊢
      exact compPG_ok as acc (fun b hb => h b (by simp [hb])) hl
    | some b =>
      simp only [List.filterMap_cons, hg, List.length_cons] at hl ⊢
      rw [if_pos (by omega), compPG_ok as (acc ++ [b]) (fun b hb => h b (by simp [hb])) (by simp; omega)]
      simp
theorem compP_ok {f : α → M (Option β)} {xs : List α} (g : α → Option β) (h : ∀ a ∈ xs, f a = .ok (g a)) (hl : (xs.filterMap g).length ≤ lim) : compP f xs = .ok (xs.filterMap g) := by
  have := compPG_ok xs [] h (by simpa using hl)
  simpa [compP] using this
theorem compP_map {f : α → M (Option β)} {xs : List α} (g : α → β) (h : ∀ a ∈ xs, f a = .ok (some (g a))) (hl : xs.length ≤ lim) : compP f xs = .ok (xs.map g) := by
  have e : (xs.filterMap fun a => some (g a)) = xs.map g := by simp
  rw [compP_ok (fun a => some (g a)) h (by rw [e]; simpa using hl), e]
theorem compPG_lenG {p : α → Bool} {f : α → β} : ∀ (xs : List α) (acc : List β), acc.length ≤ lim → compPG (fun a => if p a = true then .ok (some (f a)) else .ok none) xs acc = lenG (acc ++ (xs.filter p).map f)
  | [], acc, h => by simp [compPG, lenG, h]
  | a :: as, acc, h => by
    unfold compPG
    cases hp : p a with
    | false =>
      simp only [hp, Bool.false_eq_true, if_false, List.filter_cons]
      exact compPG_lenG as acc h
    | true =>
      simp only [hp, if_true, List.filter_cons, List.map_cons]
      by_cases hl : acc.length < lim
      · rw [if_pos hl, compPG_lenG as (acc ++ [f a]) (by simp; omega)]
        simp
      · rw [if_neg hl]
        unfold lenG
        rw [if_neg (by simp; omega)]
theorem compP_lenG (p : α → Bool) (f : α → β) (xs : List α) : compP (fun a => if p a = true then .ok (some (f a)) else .ok none) xs = lenG ((xs.filter p).map f) := by
  have := compPG_lenG (p := p) (f := f) xs [] (by simp [lim])
  simpa [compP] using this
theorem compP_lenM (f : α → β) (xs : List α) : compP (fun a => .ok (some (f a))) xs = lenG (xs.map f) := by
  have := compP_lenG (fun _ => true) f xs
  have e : xs.filter (fun _ => true) = xs := by simp
  rw [e] at this
  simpa using this
end
section
variable {α β γ δ σ ρ τ : Type} {env el : SE} {m : M τ} {x : SE → Prop}
theorem fLoop_for {b : BF} {body : SF} {enc : α → PyData} {f : α → σ → M σ} (K : σ → SE → Prop) (hb : ∀ a s e, K s e → ∃ e2, b (enc a) e = some e2 ∧ Sim (body e2) (f a s) (fun s' fl e' => (fl = .nx ∨ fl = .ct) ∧ K s' e') x) :
    ∀ (xs : List α) (s : σ) (e : SE), K s e → Sim (fLoop b body (xs.map enc) e) (forM' f xs s) (fun s' fl e' => fl = .nx ∧ K s' e') x
  | [], s, e, h => ⟨.nx, e, rfl, rfl, h⟩
  | a :: as, s, e, h => by
    obtain ⟨e2, h1, h2⟩ := hb a s e h
    simp only [List.map_cons, fLoop, h1, forM']
    cases hf : f a s with
    | fail => exact trivial
    | exc c fs =>
      rw [hf] at h2
      obtain ⟨e3, h3, h4⟩ := h2
      rw [h3]
      exact ⟨e3, rfl, h4⟩
    | ok s' =>
      rw [hf] at h2
      obtain ⟨fl, e3, h3, h4, h5⟩ := h2
      rw [h3]
      have ih := fLoop_for K hb as s' e3 h5
      rcases h4 with rfl | rfl <;> exact ih
theorem fo_n {b : BF} {body : SF} {enc : α → PyData} {f : α → σ → M σ} {xs : List α} {lk : List Nat} {s0 : σ} {m2 : σ → M τ} {k : τ → δ → SE → Prop} {g : Fl → SE → Res (δ × SE)} (K : σ → SE → Prop) (h0 : K s0 (lockAll lk env)) (hx : ∀ e, x e → x (unlockAll lk env e))
    (hb : ∀ a s e, K s e → ∃ e2, b (enc a) e = some e2 ∧ Sim (body e2) (f a s) (fun s' fl e' => (fl = .nx ∨ fl = .ct) ∧ K s' e') x) (hg : ∀ s e, K s e → ∀ e', unlockAll lk env e = e' → Sim (g .nx e') (m2 s) k x) : Sim (bnd (forR b body (xs.map enc, lk) env) g) (forM' f xs s0 >>= m2) k x := by
  have q := fLoop_for K hb xs s0 _ h0
  unfold forR
  cases hf : forM' f xs s0 with
  | fail => exact trivial
  | exc c fs =>
    rw [hf] at q
    obtain ⟨e3, h3, h4⟩ := q
    rw [h3]
    exact ⟨_, rfl, hx _ h4⟩
  | ok s' =>
    rw [hf] at q
    obtain ⟨fl, e3, h3, h4, h5⟩ := q
    subst h4
    rw [h3]
    exact hg s' e3 h5 _ rfl
def LpK (K : σ → SE → Prop) (Kr : ρ → Ret → SE → Prop) : Lp σ ρ → Fl → SE → Prop
  | .nx s, fl, e => (fl = .nx ∨ fl = .ct) ∧ K s e
  | .bk s, fl, e => fl = .bk ∧ K s e
  | .rt r, fl, e => ∃ v, fl = .rt v ∧ Kr r v e
def LpO (K : σ → SE → Prop) (Kr : ρ → Ret → SE → Prop) : Lp σ ρ → Fl → SE → Prop
  | .nx s, fl, e => fl = .nx ∧ K s e
  | .bk _, _, _ => False
  | .rt r, fl, e => ∃ v, fl = .rt v ∧ Kr r v e
theorem fLoop_forL {b : BF} {body : SF} {enc : α → PyData} {f : α → σ → M (Lp σ ρ)} (K : σ → SE → Prop) (Kr : ρ → Ret → SE → Prop) (hb : ∀ a s e, K s e → ∃ e2, b (enc a) e = some e2 ∧ Sim (body e2) (f a s) (LpK K Kr) x) :
    ∀ (xs : List α) (s : σ) (e : SE), K s e → Sim (fLoop b body (xs.map enc) e) (forL f xs s) (LpO K Kr) x
  | [], s, e, h => ⟨.nx, e, rfl, rfl, h⟩
  | a :: as, s, e, h => by
    obtain ⟨e2, h1, h2⟩ := hb a s e h
    simp only [List.map_cons, fLoop, h1, forL]
    cases hf : f a s with
    | fail => exact trivial
    | exc c fs =>
      rw [hf] at h2
      obtain ⟨e3, h3, h4⟩ := h2
      rw [h3]
      exact ⟨e3, rfl, h4⟩
    | ok l =>
      rw [hf] at h2
      obtain ⟨fl, e3, h3, h4⟩ := h2
      rw [h3]
      cases l with
      | nx s' =>
        have ih := fLoop_forL K Kr hb as s' e3 h4.2
        rcases h4.1 with rfl | rfl <;> exact ih
      | bk s' =>
        obtain ⟨rfl, h5⟩ := h4
        exact ⟨.nx, e3, rfl, rfl, h5⟩
      | rt r =>
        obtain ⟨v, rfl, h5⟩ := h4
        exact ⟨_, e3, rfl, v, rfl, h5⟩
theorem fo_l {b : BF} {body : SF} {enc : α → PyData} {f : α → σ → M (Lp σ ρ)} {xs : List α} {lk : List Nat} {s0 : σ} {m2 : Lp σ ρ → M τ} {k : τ → δ → SE → Prop} {g : Fl → SE → Res (δ × SE)} (K : σ → SE → Prop) (Kr : ρ → Ret → SE → Prop) (h0 : K s0 (lockAll lk env)) (hx : ∀ e, x e → x (unlockAll lk env e))
    (hb : ∀ a s e, K s e → ∃ e2, b (enc a) e = some e2 ∧ Sim (body e2) (f a s) (LpK K Kr) x) (hg : ∀ s e, K s e → ∀ e', unlockAll lk env e = e' → Sim (g .nx e') (m2 (.nx s)) k x) (hr : ∀ r v e, Kr r v e → ∀ e', unlockAll lk env e = e' → Sim (g (.rt v) e') (m2 (.rt r)) k x) : Sim (bnd (forR b body (xs.map enc, lk) env) g) (forL f xs s0 >>= m2) k x := by
  have q := fLoop_forL K Kr hb xs s0 _ h0
  unfold forR
  cases hf : forL f xs s0 with
  | fail => exact trivial
  | exc c fs =>
    rw [hf] at q
    obtain ⟨e3, h3, h4⟩ := q
    rw [h3]
    exact ⟨_, rfl, hx _ h4⟩
  | ok l =>
    rw [hf] at q
    obtain ⟨fl, e3, h3, h4⟩ := q
    rw [h3]
    cases l with
    | nx s' => obtain ⟨rfl, h5⟩ := h4; exact hg s' e3 h5 _ rfl
    | bk s' => exact h4.elim
    | rt r => obtain ⟨v, rfl, h5⟩ := h4; exact hr r v e3 h5 _ rfl
theorem fWhile_m {c : TF} {body : SF} {cm : σ → M Bool} {f : σ → M σ} (K : σ → SE → Prop) (hc : ∀ s e, K s e → Sim (c e) (cm s) (fun b b' e' => b' = b ∧ K s e') x) (hb : ∀ s e, K s e → Sim (body e) (f s) (fun s' fl e' => (fl = .nx ∨ fl = .ct) ∧ K s' e') x) :
    ∀ (n : Nat) (s : σ) (e : SE), K s e → Sim (fWhileN c body n e) (whileM cm f n s) (fun s' fl e' => fl = .nx ∧ K s' e') x
  | 0, s, e, h => trivial
  | n + 1, s, e, h => by
    have h1 := hc s e h
    unfold fWhileN whileM
    cases hcm : cm s with
    | fail => exact trivial
    | exc cc fs =>
      rw [hcm] at h1
      obtain ⟨e3, h3, h4⟩ := h1
      rw [h3]
      exact ⟨e3, rfl, h4⟩
    | ok b =>
      rw [hcm] at h1
      obtain ⟨b', e3, h3, rfl, h4⟩ := h1
      rw [h3]
      cases b' with
      | false => exact ⟨.nx, e3, rfl, rfl, h4⟩
      | true =>
        have h2 := hb s e3 h4
        simp only [M.ok_bind, if_true]
        cases hf : f s with
        | fail => exact trivial
        | exc cc fs =>
          rw [hf] at h2
          obtain ⟨e5, h5, h6⟩ := h2
          rw [h5]
          exact ⟨e5, rfl, h6⟩
        | ok s' =>
          rw [hf] at h2
          obtain ⟨fl, e5, h5, h6, h7⟩ := h2
          rw [h5]
          have ih := fWhile_m K hc hb n s' e5 h7
          rcases h6 with rfl | rfl <;> exact ih
theorem wh_n {c : TF} {body : SF} {cm : σ → M Bool} {f : σ → M σ} {n : Nat} {s0 : σ} {m2 : σ → M τ} {k : τ → δ → SE → Prop} {g : Fl → SE → Res (δ × SE)} (K : σ → SE → Prop) (h0 : K s0 env) (hc : ∀ s e, K s e → Sim (c e) (cm s) (fun b b' e' => b' = b ∧ K s e') x)
    (hb : ∀ s e, K s e → Sim (body e) (f s) (fun s' fl e' => (fl = .nx ∨ fl = .ct) ∧ K s' e') x) (hg : ∀ s e, K s e → Sim (g .nx e) (m2 s) k x) : Sim (bnd ((fun env => fWhileN c body n env) env) g) (whileM cm f n s0 >>= m2) k x :=
  sim_bind (fWhile_m K hc hb n s0 env h0) fun s fl e h => by rw [h.1]; exact hg s e h.2
theorem fWhile_l {c : TF} {body : SF} {cm : σ → M Bool} {f : σ → M (Lp σ ρ)} (K : σ → SE → Prop) (Kr : ρ → Ret → SE → Prop) (hc : ∀ s e, K s e → Sim (c e) (cm s) (fun b b' e' => b' = b ∧ K s e') x) (hb : ∀ s e, K s e → Sim (body e) (f s) (LpK K Kr) x) :
    ∀ (n : Nat) (s : σ) (e : SE), K s e → Sim (fWhileN c body n e) (whileL cm f n s) (LpO K Kr) x
  | 0, s, e, h => trivial
  | n + 1, s, e, h => by
    have h1 := hc s e h
    unfold fWhileN whileL
    cases hcm : cm s with
    | fail => exact trivial
    | exc cc fs =>
      rw [hcm] at h1
      obtain ⟨e3, h3, h4⟩ := h1
      rw [h3]
      exact ⟨e3, rfl, h4⟩
    | ok b =>
      rw [hcm] at h1
      obtain ⟨b', e3, h3, rfl, h4⟩ := h1
      rw [h3]
      cases b' with
      | false => exact ⟨.nx, e3, rfl, rfl, h4⟩
      | true =>
        have h2 := hb s e3 h4
        simp only [M.ok_bind, if_true]
        cases hf : f s with
        | fail => exact trivial
        | exc cc fs =>
          rw [hf] at h2
          obtain ⟨e5, h5, h6⟩ := h2
          rw [h5]
          exact ⟨e5, rfl, h6⟩
        | ok l =>
          rw [hf] at h2
          obtain ⟨fl, e5, h5, h6⟩ := h2
          rw [h5]
          cases l with
          | nx s' =>
            have ih := fWhile_l K Kr hc hb n s' e5 h6.2
            rcases h6.1 with rfl | rfl <;> exact ih
          | bk s' =>
            obtain ⟨rfl, h7⟩ := h6
            exact ⟨.nx, e5, rfl, rfl, h7⟩
          | rt r =>
            obtain ⟨v, rfl, h7⟩ := h6
            exact ⟨_, e5, rfl, v, rfl, h7⟩
theorem wh_l {c : TF} {body : SF} {cm : σ → M Bool} {f : σ → M (Lp σ ρ)} {n : Nat} {s0 : σ} {m2 : Lp σ ρ → M τ} {k : τ → δ → SE → Prop} {g : Fl → SE → Res (δ × SE)} (K : σ → SE → Prop) (Kr : ρ → Ret → SE → Prop) (h0 : K s0 env) (hc : ∀ s e, K s e → Sim (c e) (cm s) (fun b b' e' => b' = b ∧ K s e') x)
    (hb : ∀ s e, K s e → Sim (body e) (f s) (LpK K Kr) x) (hg : ∀ s e, K s e → Sim (g .nx e) (m2 (.nx s)) k x) (hr : ∀ r v e, Kr r v e → Sim (g (.rt v) e) (m2 (.rt r)) k x) : Sim (bnd ((fun env => fWhileN c body n env) env) g) (whileL cm f n s0 >>= m2) k x :=
  sim_bind (fWhile_l K Kr hc hb n s0 env h0) fun l fl e h => by
    cases l with
    | nx s => obtain ⟨rfl, h⟩ := h; exact hg s e h
    | bk s => exact h.elim
    | rt r => obtain ⟨v, rfl, h⟩ := h; exact hr r v e h
/-! comprehensions -/
def turnR (tt : TF) (te : CF) (vs : List Nat) (el e2 : SE) : Res (Option PyData × SE) := bnd (tt e2) fun t e3 => if t = true then bnd (te e3) fun y e4 => .ok (some y, restE el vs e4) else .ok (none, restE el vs e3)
theorem cLoop_S {b : BF} {vs : List Nat} {tt : TF} {te : CF} {enc : α → PyData} {enc' : β → PyData} {f : α → σ → M (Option β × σ)} (K : σ → SE → Prop) (hnc : ∀ s e, K s e → noCell e vs = true)
    (hb : ∀ a s e, K s e → ∃ e2, b (enc a) (wipeE e vs) = some e2 ∧ Sim (turnR tt te vs e e2) (f a s) (fun p oy e' => oy = p.1.map enc' ∧ K p.2 e') fun _ => True) :
    ∀ (xs : List α) (s : σ) (e : SE) (acc : List β), K s e → match compG f xs s acc with
      | .ok (ys, s') => ∃ e', cLoop b vs tt te (xs.map enc) e (acc.map enc') = .ok (ys.map enc', e') ∧ K s' e'
      | .exc _ _ => False
      | .fail => True
  | [], s, e, acc, h => ⟨e, rfl, h⟩
  | a :: as, s, e, acc, h => by
    obtain ⟨e2, h1, h2⟩ := hb a s e h
    have nc := hnc s e h
    unfold compG
    cases hf : f a s with
    | fail => exact trivial
    | exc c fs => exact trivial
    | ok p =>
      obtain ⟨o, s'⟩ := p
      rw [hf] at h2
      obtain ⟨oy, e', q1, q2, q3⟩ := h2
      simp only at q2 q3
      subst q2
      simp only [List.map_cons, cLoop, nc, if_true, h1]
      unfold turnR at q1
      cases htt : tt e2 with
      | fail => rw [htt] at q1; cases q1
      | exc c fs ee => rw [htt] at q1; cases q1
      | ok p =>
        obtain ⟨t, e3⟩ := p
        rw [htt, bnd_ok] at q1
        cases t with
        | false =>
          simp only [Bool.false_eq_true, if_false, Res.ok.injEq, Prod.mk.injEq] at q1
          obtain ⟨q1, q1'⟩ := q1
          subst q1'
          cases o with
          | some y => cases q1
          | none => exact cLoop_S K hnc hb as s' _ acc q3
        | true =>
          simp only [if_true] at q1
          cases hte : te e3 with
          | fail => rw [hte] at q1; cases q1
          | exc c fs ee => rw [hte] at q1; cases q1
          | ok p =>
            obtain ⟨y, e4⟩ := p
            rw [hte, bnd_ok] at q1
            simp only [Res.ok.injEq, Prod.mk.injEq] at q1
            obtain ⟨q1, q1'⟩ := q1
            subst q1'
            cases o with
            | none => cases q1
            | some z =>
              simp only [Option.map, Option.some.injEq] at q1
              subst q1
              simp only [hte, List.length_map]
              by_cases hl : acc.length < lim
              · simp only [hl, if_true]
                have := cLoop_S K hnc hb as s' _ (acc ++ [z]) q3
                simpa using this
              · simp only [hl, if_false]
theorem co_s {b : BF} {vs : List Nat} {tt : TF} {te : CF} {enc : α → PyData} {enc' : β → PyData} {f : α → σ → M (Option β × σ)} {xs : List α} {lk : List Nat} {s0 : σ} {m2 : List β × σ → M τ} {k : τ → δ → SE → Prop} {g : RV → SE → Res (δ × SE)} (K : σ → SE → Prop) (h0 : K s0 (lockAll lk env)) (hnc : ∀ s e, K s e → noCell e vs = true)
    (hb : ∀ a s e, K s e → ∃ e2, b (enc a) (wipeE e vs) = some e2 ∧ Sim (turnR tt te vs e e2) (f a s) (fun p oy e' => oy = p.1.map enc' ∧ K p.2 e') fun _ => True)
    (hg : ∀ ys s e, K s e → ∀ e', unlockAll lk env e = e' → Sim (g (.tmp (.lst (ys.map enc'))) e') (m2 (ys, s)) k x) : Sim (bnd (compR b vs tt te (xs.map enc, lk) env) g) (compS f xs s0 >>= m2) k x := by
  have q := cLoop_S K hnc hb xs s0 _ [] h0
  unfold compS
  cases hf : compG f xs s0 [] with
  | fail => exact trivial
  | exc c fs => rw [hf] at q; exact q.elim
  | ok p =>
    obtain ⟨ys, s'⟩ := p
    rw [hf] at q
    obtain ⟨e', h1, h2⟩ := q
    have : compR b vs tt te (xs.map enc, lk) env = .ok (.tmp (.lst (ys.map enc')), unlockAll lk env e') := by
      simp only [List.map_nil] at h1
      simp only [compR, h1]
    rw [this]; exact hg ys s' e' h2 _ rfl
theorem compP_S (f : α → M (Option β)) : ∀ (xs : List α) (acc : List β), compG (fun a (_ : Unit) => f a >>= fun o => .ok (o, ())) xs () acc = compPG f xs acc >>= fun ys => .ok (ys, ())
  | [], acc => rfl
  | a :: as, acc => by
    unfold compG compPG
    cases hf : f a with
    | fail => simp
    | exc c fs => simp
    | ok o =>
      cases o with
      | none => simp only [M.ok_bind]; exact compP_S f as acc
      | some y =>
        simp only [M.ok_bind]
        split
        · exact compP_S f as _
        · rfl
theorem co_p {b : BF} {vs : List Nat} {tt : TF} {te : CF} {enc : α → PyData} {enc' : β → PyData} {f : α → M (Option β)} {xs : List α} {lk : List Nat} {m2 : List β → M τ} {k : τ → δ → SE → Prop} {g : RV → SE → Res (δ × SE)} (hl : lockAll lk env = el) (hnc : noCell el vs = true) (hu : unlockAll lk env el = env)
    (hb : ∀ a, ∃ e2, b (enc a) (wipeE el vs) = some e2 ∧ Sim (turnR tt te vs el e2) (f a) (fun o oy e' => oy = o.map enc' ∧ e' = el) fun _ => True)
    (hg : ∀ ys, Sim (g (.tmp (.lst (ys.map enc'))) env) (m2 ys) k x) : Sim (bnd (compR b vs tt te (xs.map enc, lk) env) g) (compP f xs >>= m2) k x := by
  have e : compP f xs >>= m2 = compS (fun a (_ : Unit) => f a >>= fun o => .ok (o, ())) xs () >>= fun p => m2 p.1 := by
    unfold compP compS
    rw [compP_S, M.assoc]; rfl
  rw [e]
  refine co_s (enc' := enc') (fun _ e => e = el) hl (fun _ e h => by rw [h]; exact hnc) (fun a _ e h => ?_) fun ys _ e h e' he => by rw [h, hu] at he; rw [← he]; exact hg ys
  subst h
  obtain ⟨e2, h1, h2⟩ := hb a
  refine ⟨e2, h1, ?_⟩
  cases hf : f a with
  | fail => exact trivial
  | exc c fs => rw [hf] at h2; exact h2
  | ok o => rw [hf] at h2; exact h2
theorem co_t {b : BF} {vs : List Nat} {tt : TF} {te : CF} {enc : α → PyData} {enc' : β → PyData} {p : α → Bool} {f : α → β} {xs : List α} {lk : List Nat} {m2 : List β → M τ} {k : τ → δ → SE → Prop} {g : RV → SE → Res (δ × SE)} (hl : lockAll lk env = el) (hnc : noCell el vs = true) (hu : unlockAll lk env el = env)
    (hb : ∀ a, ∃ e2, b (enc a) (wipeE el vs) = some e2 ∧ Sim (turnR tt te vs el e2) (if p a = true then .ok (some (f a)) else .ok none) (fun o oy e' => oy = o.map enc' ∧ e' = el) fun _ => True)
    (hg : ∀ ys, Sim (g (.tmp (.lst (ys.map enc'))) env) (m2 ys) k x) : Sim (bnd (compR b vs tt te (xs.map enc, lk) env) g) (lenG ((xs.filter p).map f) >>= m2) k x := by
  rw [← compP_lenG]; exact co_p hl hnc hu hb hg
theorem co_m {b : BF} {vs : List Nat} {tt : TF} {te : CF} {enc : α → PyData} {enc' : β → PyData} {f : α → β} {xs : List α} {lk : List Nat} {m2 : List β → M τ} {k : τ → δ → SE → Prop} {g : RV → SE → Res (δ × SE)} (hl : lockAll lk env = el) (hnc : noCell el vs = true) (hu : unlockAll lk env el = env)
    (hb : ∀ a, ∃ e2, b (enc a) (wipeE el vs) = some e2 ∧ Sim (turnR tt te vs el e2) (.ok (some (f a))) (fun o oy e' => oy = o.map enc' ∧ e' = el) fun _ => True)
    (hg : ∀ ys, Sim (g (.tmp (.lst (ys.map enc'))) env) (m2 ys) k x) : Sim (bnd (compR b vs tt te (xs.map enc, lk) env) g) (lenG (xs.map f) >>= m2) k x := by
  rw [← compP_lenM]; exact co_p hl hnc hu hb hg
theorem c_turn {tt : TF} {te : CF} {vs : List Nat} {el e2 : SE} {m : M τ} {k : τ → Option PyData → SE → Prop} (h : Sim (bnd (tt e2) fun t e3 => if t = true then bnd (te e3) fun y e4 => .ok (some y, restE el vs e4) else .ok (none, restE el vs e3)) m k x) : Sim (turnR tt te vs el e2) m k x := h
theorem c_turnY {te : CF} {vs : List Nat} {el e2 : SE} {m : M τ} {k : τ → Option PyData → SE → Prop} (h : Sim (bnd (te e2) fun y e4 => .ok (some y, restE el vs e4)) m k x) : Sim (turnR fYes te vs el e2) m k x := h
/-! calls of defs -/
def FSim (r : FRes) (m : M α) (kr : α → Ret) (ko : α → List Arg) : Prop := match m with
  | .ok a => r = .ok (kr a) (ko a)
  | .exc c fs => ∃ outs, r = .exc c fs outs
  | .fail => True
def FlE (fl : Fl) (r : Ret) : Prop := fl = .rt r ∨ (fl = .nx ∧ r = .d .none)
theorem fs_mk {n : Nat} {f : SF} {as : List Arg} {m : M α} {kr : α → Ret} {ko : α → List Arg} (h : Sim (f (envOf n as)) m (fun a fl e => FlE fl (kr a) ∧ outsOf as e = ko a) fun _ => True) : FSim (fnF n f as) m kr ko := by
  unfold FSim fnF
  cases m with
  | fail => exact trivial
  | exc c fs =>
    obtain ⟨e, h1, _⟩ := h
    rw [h1]; exact ⟨_, rfl⟩
  | ok a =>
    obtain ⟨fl, e, h1, h2, h3⟩ := h
    rw [h1]
    rcases h2 with rfl | ⟨rfl, h2⟩
    · show FRes.ok _ _ = FRes.ok _ _
      rw [h3]
    · show FRes.ok _ _ = FRes.ok _ _
      rw [h2, h3]
theorem cf_s {F : List Arg → FRes} {as : List AV} {n : Nat} {l : List Arg} {mf : M α} {kr : α → Ret} {ko : α → List Arg} {e2 : α → SE} {m2 : α → M τ} {k : τ → δ → SE → Prop} {g : RV → SE → Res (δ × SE)} (h : FSim (F l) mf kr ko) (hn : (refsOf as).Nodup) (hl : toArgs as env = some l) (hlen : l.length = n) (he : ∀ v, putOuts as (ko v) env = e2 v)
    (hx : ∀ outs, x (putOuts as outs env)) (hg : ∀ v, Sim (g (kr v).rv (e2 v)) (m2 v) k x) : Sim (bnd (callFR n F as env) g) (mf >>= m2) k x := by
  unfold callFR
  rw [if_pos hn, hl]
  simp only [hlen, if_true]
  cases mf with
  | fail => exact trivial
  | exc c fs =>
    obtain ⟨outs, h⟩ := h
    rw [h]
    exact ⟨_, rfl, hx outs⟩
  | ok a =>
    have h : F l = .ok (kr a) (ko a) := h
    rw [h]
    simp only [he]
    exact hg a
end
end BH

set_option maxRecDepth 100000
set_option maxHeartbeats 2000000
namespace BH
open PySem PySem.Spec PyProof.Rows L2
section
variable {α β γ δ σ ρ τ : Type} {env el : SE} {x : SE → Prop}
theorem lpk_nx {K : σ → SE → Prop} {Kr : ρ → Ret → SE → Prop} {s : σ} {e : SE} (h : K s e) : LpK K Kr (.nx s) .nx e := ⟨.inl rfl, h⟩
theorem lpk_ct {K : σ → SE → Prop} {Kr : ρ → Ret → SE → Prop} {s : σ} {e : SE} (h : K s e) : LpK K Kr (.nx s) .ct e := ⟨.inr rfl, h⟩
theorem lpk_bk {K : σ → SE → Prop} {Kr : ρ → Ret → SE → Prop} {s : σ} {e : SE} (h : K s e) : LpK K Kr (.bk s) .bk e := ⟨rfl, h⟩
theorem lpk_rt {K : σ → SE → Prop} {Kr : ρ → Ret → SE → Prop} {r : ρ} {v : Ret} {e : SE} (h : Kr r v e) : LpK K Kr (.rt r) (.rt v) e := ⟨v, rfl, h⟩
def lendM (m : M α) : M α := match m with
  | .ok a => .ok a
  | _ => .fail
@[simp] theorem lendM_ok (a : α) : lendM (.ok a) = .ok a := rfl
theorem lend_t {i : Nat} {ds : List PyData} {f : TF} {mt : M Bool} {m2 : Bool → M τ} {k : τ → δ → SE → Prop} {g : Bool → SE → Res (δ × SE)} (h : env[i]? = some (some (.cell .own (.lst ds)))) (he : env.set i (some (.d (.list ds))) = el) (hf : Sim (f el) mt (pureK el fun b => b) fun _ => True)
    (hn : noListE (el.set i none) = true) (hi : i < el.length) (hb : el.set i (some (.cell .own (.lst ds))) = env) (hg : ∀ b, Sim (g b env) (m2 b) k x) : Sim (bnd (fLendT i f env) g) (lendM mt >>= m2) k x := by
  cases mt with
  | fail => exact trivial
  | exc c fs => exact trivial
  | ok b =>
    have e1 := sim_eq hf
    have : fLendT i f env = .ok (b, env) := by
      unfold fLendT
      rw [h]
      simp only [he, e1, hn, hi, and_self, if_true, hb]
    rw [this]; exact hg b
theorem nls_of {e : α → PyData} (h : ∀ a, noList (e a) = true) : ∀ xs : List α, noLists (xs.map e) = true
  | [] => by simp [noLists]
  | x :: xs => by simp [noLists, h, nls_of h xs]
theorem nl_int (i : Int) : noList (.int i) = true := by simp [noList]
theorem nl_T {e : α → PyData} (h : ∀ a, noList (e a) = true) (xs : List α) : noList (eT e xs) = true := by simp [eT, noList, nls_of h]
theorem ne_nil : noListE [] = true := rfl
theorem ne_none {l : SE} (t : noListE l = true) : noListE (none :: l) = true := t
theorem ne_d {d : PyData} {l : SE} (h : noList d = true) (t : noListE l = true) : noListE (some (.d d) :: l) = true := by
  have : noListE (some (.d d) :: l) = (noList d && noListE l) := rfl
  rw [this, h, t]; rfl
theorem ne_c {m : Mode} {ds : List PyData} {l : SE} (h : noLists ds = true) (t : noListE l = true) : noListE (some (.cell m (.lst ds)) :: l) = true := by
  have : noListE (some (.cell m (.lst ds)) :: l) = (noLists ds && noListE l) := rfl
  rw [this, h, t]; rfl
end
end BH

set_option maxRecDepth 100000
set_option maxHeartbeats 2000000
namespace BH
open PySem PySem.Spec PyProof.Rows L2
/-! ### texts compared -/
@[irreducible] def eqSM (a b : Str) : M Bool := if SeqAt.shaped (.str a) = true ∧ SeqAt.shaped (.str b) = true then .ok (decide (a = b)) else .fail
theorem eqv_str (a b : Str) : PyData.eqv (.str a) (.str b) = decide (a = b) := by
  simp only [PyData.eqv]
  by_cases h : a = b
  · subst h; simp
  · simp [h]
theorem eqSS {a b : Str} : OpS (opEq false (.str a) (.str b)) (eqSM a b) fun v => .d (.bool v) := by
  unfold eqSM
  split
  · rename_i h
    simp only [OpS, opEq, h.1, h.2, Bool.and_self, if_true, eqv_str]
    rfl
  · exact trivial
theorem neSS {a b : Str} : OpS (opEq true (.str a) (.str b)) (eqSM a b) fun v => .d (.bool (!v)) := by
  unfold eqSM
  split
  · rename_i h
    simp only [OpS, opEq, h.1, h.2, Bool.and_self, if_true, eqv_str]
  · exact trivial
/-! ### a list of lists, an item of an item written -/
section
variable {α β γ δ σ ρ τ : Type} {env el : SE} {x : SE → Prop}
theorem cLoop2_S {b : BF} {vs : List Nat} {te : EF} {enc : α → PyData} {f : α → σ → M (List Int × σ)} (K : σ → SE → Prop) (hnc : ∀ s e, K s e → noCell e vs = true)
    (hb : ∀ a s e, K s e → ∃ e2, b (enc a) (wipeE e vs) = some e2 ∧ Sim (te e2) (f a s) (fun p r e' => r = .tmp (.lst (p.1.map .int)) ∧ K p.2 (restE e vs e')) fun _ => True) :
    ∀ (xs : List α) (s : σ) (e : SE) (acc : List (List Int)), K s e → match compG (fun a s => f a s >>= fun p => .ok (some p.1, p.2)) xs s acc with
      | .ok (ys, s') => ∃ e', cLoop2 b vs te (xs.map enc) e acc = .ok (ys, e') ∧ K s' e'
      | .exc _ _ => False
      | .fail => True
  | [], s, e, acc, h => ⟨e, rfl, h⟩
  | a :: as, s, e, acc, h => by
    obtain ⟨e2, h1, h2⟩ := hb a s e h
    have nc := hnc s e h
    unfold compG
    cases hf : f a s with
    | fail => exact trivial
    | exc c fs => exact trivial
    | ok p =>
      rw [hf] at h2
      obtain ⟨r, e', q1, q2, q3⟩ := h2
      subst q2
      simp only [M.ok_bind, List.map_cons, cLoop2, nc, if_true, h1, q1, intsOf_ints]
      by_cases hl : acc.length < lim
      · simp only [hl, if_true]
        exact cLoop2_S K hnc hb as p.2 _ (acc ++ [p.1]) q3
      · simp only [hl, if_false]
def tabR (b : BF) (vs : List Nat) (te : EF) (it : List PyData × List Nat) (e : SE) : Res (List (List Int) × SE) := match cLoop2 b vs te it.1 (lockAll it.2 e) [] with
  | .ok (acc, e') => .ok (acc, unlockAll it.2 e e')
  | .exc _ _ _ => .fail
  | .fail => .fail
theorem c_tab {fi : IF} {b : BF} {vs : List Nat} {te : EF} {m : M τ} {k : τ → δ → SE → Prop} {g : List (List Int) → SE → Res (δ × SE)} (h : Sim (bnd (fi env) fun it e1 => bnd (tabR b vs te it e1) g) m k x) : Sim (bnd (fTab fi b vs te env) g) m k x := by
  have e : fTab fi b vs te env = bnd (fi env) fun it e1 => tabR b vs te it e1 := rfl
  rw [e]; simpa only [bnd_assoc] using h
theorem tab_s {b : BF} {vs : List Nat} {te : EF} {enc : α → PyData} {f : α → σ → M (List Int × σ)} {xs : List α} {s0 : σ} {m2 : List (List Int) × σ → M τ} {k : τ → δ → SE → Prop} {g : List (List Int) → SE → Res (δ × SE)} (K : σ → SE → Prop) (h0 : K s0 env) (hnc : ∀ s e, K s e → noCell e vs = true)
    (hb : ∀ a s e, K s e → ∃ e2, b (enc a) (wipeE e vs) = some e2 ∧ Sim (te e2) (f a s) (fun p r e' => r = .tmp (.lst (p.1.map .int)) ∧ K p.2 (restE e vs e')) fun _ => True)
    (hg : ∀ p e, K p.2 e → Sim (g p.1 e) (m2 p) k x) : Sim (bnd (tabR b vs te (xs.map enc, []) env) g) (compS (fun a s => f a s >>= fun p => .ok (some p.1, p.2)) xs s0 >>= m2) k x := by
  have q := cLoop2_S K hnc hb xs s0 _ [] h0
  unfold compS
  cases hf : compG (fun a s => f a s >>= fun p => .ok (some p.1, p.2)) xs s0 [] with
  | fail => exact trivial
  | exc c fs => rw [hf] at q; exact q.elim
  | ok p =>
    obtain ⟨ys, s'⟩ := p
    rw [hf] at q
    obtain ⟨e', h1, h2⟩ := q
    have : tabR b vs te (xs.map enc, []) env = .ok (ys, e') := by
      simp only [tabR, lockAll, h1, unlockAll]
    rw [this]; exact hg (ys, s') e' h2
def fixM (ft : Int → σ → List (List Int) → M Bool) (fc : Int → σ → List (List Int) → M (Int × σ)) (k : Int) (s : σ × List (List Int)) : M (σ × List (List Int)) :=
  ft k s.1 s.2 >>= fun b => if b = true then fc k s.1 s.2 >>= fun p => ixM s.2 p.1 >>= fun ws => setM ws k 1 >>= fun ws2 => setM s.2 p.1 ws2 >>= fun w2 => .ok (p.2, w2) else .ok s
theorem fix_S {test : TF} {call : EF} {rw ro ki : Nat} {ft : Int → σ → List (List Int) → M Bool} {fc : Int → σ → List (List Int) → M (Int × σ)} (K : σ → List (List Int) → SE → Prop) (K1 : Int → σ → List (List Int) → SE → Prop)
    (hb : ∀ k s w e, K s w e → ∃ e1, bName ki (.int k) e = some e1 ∧ Sim (test e1) (ft k s w) (fun b b' e' => b' = b ∧ K1 k s w e') fun _ => True)
    (hK : ∀ k s w e, K1 k s w e → K s w e)
    (hc : ∀ k s w e, K1 k s w e → Sim (call e) (fc k s w) (fun p r e' => r = .d (.int p.1) ∧ e'[ki]? = some (some (.d (.int k))) ∧ (flatAll ((e'.set ro none).set rw none) && noCell e' [ro, rw]) = true ∧ rw < e'.length ∧ ro < e'.length ∧ ∀ w', K p.2 w' ((e'.set ro none).set rw (some (.d (tabD w'))))) fun _ => True) :
    ∀ (xs : List Int) (s : σ) (w : List (List Int)) (e : SE), K s w e → match forM' (fixM ft fc) xs (s, w) with
      | .ok p => ∃ e', fixLoop test call rw ro ki (xs.map .int) e w = .ok (p.2, e') ∧ K p.1 p.2 e'
      | .exc _ _ => True
      | .fail => True
  | [], s, w, e, h => ⟨e, rfl, h⟩
  | a :: as, s, w, e, h => by
    obtain ⟨e1, h1, h2⟩ := hb a s w e h
    unfold forM'
    simp only [List.map_cons, fixLoop, h1]
    simp only [fixM]
    cases hf : ft a s w with
    | fail => exact trivial
    | exc c fs => exact trivial
    | ok b =>
      rw [hf] at h2
      obtain ⟨b', e2, q1, q2, q3⟩ := h2
      subst q2
      simp only [M.ok_bind, q1]
      cases b' with
      | false => exact fix_S K K1 hb hK hc as s w e2 (hK _ _ _ _ q3)
      | true =>
        have h3 := hc a s w e2 q3
        simp only [if_true]
        cases hfc : fc a s w with
        | fail => exact trivial
        | exc c fs => exact trivial
        | ok p =>
          rw [hfc] at h3
          obtain ⟨r, e3, r1, r2, r3, r4, r5, r6, r7⟩ := h3
          subst r2
          simp only [M.ok_bind, r1, r3]
          unfold ixM atI
          cases hix : ixN w.length p.1 with
          | none => exact trivial
          | some jn =>
            simp only [Option.bind]
            cases hw : w[jn]? with
            | none => exact trivial
            | some ws =>
              simp only [M.ok_bind]
              unfold setM
              cases hk : ixN ws.length a with
              | none => exact trivial
              | some kn =>
                simp only [M.ok_bind, hix, hw, hk, r4, r5, r6, and_self, if_true]
                exact fix_S K K1 hb hK hc as p.2 _ _ (r7 _)
theorem fix_s {test : TF} {call : EF} {rw ro ki : Nat} {ft : Int → σ → List (List Int) → M Bool} {fc : Int → σ → List (List Int) → M (Int × σ)} {xs : List Int} {s0 : σ} {w0 : List (List Int)} {m2 : σ × List (List Int) → M τ} {k : τ → δ → SE → Prop} {g : List (List Int) → SE → Res (δ × SE)} (K : σ → List (List Int) → SE → Prop) (K1 : Int → σ → List (List Int) → SE → Prop) (h0 : K s0 w0 env)
    (hb : ∀ k s w e, K s w e → ∃ e1, bName ki (.int k) e = some e1 ∧ Sim (test e1) (ft k s w) (fun b b' e' => b' = b ∧ K1 k s w e') fun _ => True)
    (hK : ∀ k s w e, K1 k s w e → K s w e)
    (hc : ∀ k s w e, K1 k s w e → Sim (call e) (fc k s w) (fun p r e' => r = .d (.int p.1) ∧ e'[ki]? = some (some (.d (.int k))) ∧ (flatAll ((e'.set ro none).set rw none) && noCell e' [ro, rw]) = true ∧ rw < e'.length ∧ ro < e'.length ∧ ∀ w', K p.2 w' ((e'.set ro none).set rw (some (.d (tabD w'))))) fun _ => True)
    (hg : ∀ p e, K p.1 p.2 e → Sim (g p.2 e) (m2 p) k x) : Sim (bnd (fixLoop test call rw ro ki (xs.map .int) env w0) g) (lendM (forM' (fixM ft fc) xs (s0, w0)) >>= m2) k x := by
  have q := fix_S K K1 hb hK hc xs s0 w0 env h0
  cases hf : forM' (fixM ft fc) xs (s0, w0) with
  | fail => exact trivial
  | exc c fs => exact trivial
  | ok p =>
    rw [hf] at q
    obtain ⟨e', h1, h2⟩ := q
    rw [h1]; exact hg p e' h2
theorem fl_nil : flatAll [] = true := rfl
theorem fl_none {l : SE} (t : flatAll l = true) : flatAll (none :: l) = true := t
theorem fl_i {i : Int} {l : SE} (t : flatAll l = true) : flatAll (some (.d (.int i)) :: l) = true := t
theorem fl_c {m : Mode} {ns : List Int} {l : SE} (t : flatAll l = true) : flatAll (some (.cell m (.lst (ns.map .int))) :: l) = true := by
  have : flatAll (some (.cell m (.lst (ns.map .int))) :: l) = (((ns.map PyData.int).all flatD) && flatAll l) := rfl
  rw [this, t, Bool.and_true]
  simp [flatD]
theorem and_t {a b : Bool} (h1 : a = true) (h2 : b = true) : (a && b) = true := by rw [h1, h2]; rfl
def rowsR (rw : Nat) (f2 : EFs) (test : TF) (call : EF) (ro ki : Nat) (rest : SF) (w : List (List Int)) (e : SE) : Res (Fl × SE) := match setS e rw (.d (tabD w)) with
  | none => .fail
  | some env1 => (f2 env1).bind fun q => match views q.1 q.2 with
    | some [.int n] => if rngG n then (fixLoop test call rw ro ki (rangeD 0 n.toNat) q.2 w).bind fun r => rest r.2 else .fail
    | _ => .fail
theorem c_rows {fi : IF} {b : BF} {vs : List Nat} {te : EF} {f2 : EFs} {test : TF} {call : EF} {rw ro ki : Nat} {rest : SF} {m : M τ} {k : τ → δ → SE → Prop} {g : Fl → SE → Res (δ × SE)} (h : Sim (bnd (fTab fi b vs te env) fun w e => bnd (rowsR rw f2 test call ro ki rest w e) g) m k x) : Sim (bnd (seqK (fRows fi b vs te f2 test call rw ro ki rest) .nx env) g) m k x := by
  have e : seqK (fRows fi b vs te f2 test call rw ro ki rest) .nx env = bnd (fTab fi b vs te env) fun w e => rowsR rw f2 test call ro ki rest w e := rfl
  rw [e, bnd_assoc]; exact h
theorem c_rowsR {rw ro ki : Nat} {f2 : EFs} {test : TF} {call : EF} {rest : SF} {w : List (List Int)} {n : Int} {e1 : SE} {k : τ → δ → SE → Prop} {g : Fl → SE → Res (δ × SE)} {rs : List RV} (h1 : setS env rw (.d (tabD w)) = some e1) (h2 : f2 e1 = .ok (rs, e1)) (h3 : views rs e1 = some [.int n]) {m2 : List Int → M τ}
    (h : ∀ xs : List Int, Sim (bnd (fixLoop test call rw ro ki (xs.map .int) e1 w) fun _ e => bnd (rest e) g) (m2 xs) k x) : Sim (bnd (rowsR rw f2 test call ro ki rest w env) g) (range1M n >>= m2) k x := by
  unfold range1M
  by_cases hn : rngG n
  · rw [if_pos hn]
    have e : rowsR rw f2 test call ro ki rest w env = bnd (fixLoop test call rw ro ki ((rangeZ 0 n.toNat).map .int) e1 w) fun _ e => rest e := by
      simp only [rowsR, h1, h2, Res.bind, h3, hn, if_true, rangeD_map]
      rfl
    rw [e, bnd_assoc]; exact h _
  · rw [if_neg hn]; exact trivial
end
end BH

set_option maxRecDepth 100000
set_option maxHeartbeats 4000000
namespace BH
open PySem PySem.Spec PyProof.Rows L2
/-- _law_deck(script): slots script, great, mixed, cell, more -/
def f_law_deck : SF :=
  (fSeqS (fPar 1 2 (fPCons (fC (.int 0)) (fPCons (fBin opAdd (fC (.int 2845)) (fBin opMul (fC (.int 43)) (fCall opLen (fPCons (fName 0) fPNil)))) fPNil))) (fSeqS (fFor (fSeq (fSl (fName 0) fNoPart (fPart (fC (.int 60))))) (bName 3) (fSeqS (fSet 4 (fBin opAdd (fBin opAdd (fBin opMul (fC (.int 2)) (fCall opAbs (fPCons (fName 3) fPNil))) (fCall opToInt (fPCons (fBin opLt (fName 3) (fC (.int 0))) fPNil))) (fC (.int 1)))) (fSeqS (fSet 2 (fBin opMod (fCall opToInt (fPCons (fBin opAdd (fBin opMul (fName 2) (fC (.int 6364136223846793005))) (fName 4)) fPNil)) (fC (.int 2305843009213693951)))) (fSeqS (fIfS (fTru (fBin opGe (fCall opAbs (fPCons (fName 3) fPNil)) (fBin opPow (fC (.int 10)) (fC (.int 18))))) (fSeqS (fSet 1 (fBin opAdd (fBin opMul (fName 1) (fC (.int 37))) (fCall opAbs (fPCons (fName 3) fPNil)))) fNextS) fNextS) fNextS)))) (fSeqS (fRet (fLst (fCons (fTake (fName 1)) (fCons (fTake (fName 2)) (fCons (fTake (fC (.int 0))) fNil))))) fNextS)))
def F_law_deck : List Arg → FRes := fnF 5 f_law_deck
/-- _law_draw(deck, many): slots deck, many, digit, mixed -/
def f_law_draw : SF :=
  (fSeqS (fIfS (fTru (fBin opGt (fBin opIx (fName 0) (fC (.int 0))) (fC (.int 0)))) (fSeqS (fSet 2 (fBin opMod (fCall opToInt (fPCons (fBin opIx (fName 0) (fC (.int 0))) fPNil)) (fName 1))) (fSeqS (fSetIx (fName 0) (fTake (fC (.int 0))) (fTake (fBin opDiv (fBin opIx (fName 0) (fC (.int 0))) (fName 1)))) (fSeqS (fRet (fName 2)) fNextS))) fNextS) (fSeqS (fSetIx (fName 0) (fTake (fC (.int 2))) (fTake (fBin opAdd (fBin opIx (fName 0) (fC (.int 2))) (fC (.int 1))))) (fSeqS (fSet 3 (fBin opMod (fCall opToInt (fPCons (fBin opAdd (fBin opIx (fName 0) (fC (.int 1))) (fBin opMul (fC (.int 11400714819323198485)) (fBin opIx (fName 0) (fC (.int 2))))) fPNil)) (fC (.int 18446744073709551557)))) (fSeqS (fSet 3 (fBin opMod (fCall opToInt (fPCons (fBin opMul (fName 3) (fBin opAdd (fBin opMod (fName 3) (fC (.int 4294967291))) (fC (.int 11)))) fPNil)) (fC (.int 2305843009213693951)))) (fSeqS (fRet (fBin opMod (fBin opDiv (fBin opMod (fCall opToInt (fPCons (fBin opMul (fName 3) (fName 3)) fPNil)) (fC (.int 2305843009213693921))) (fC (.int 2048))) (fName 1))) fNextS)))))
def F_law_draw : List Arg → FRes := fnF 4 f_law_draw
/-- _law_rank(rows): slots rows, left, found, kind, leads, lead, others, row, at, a, b -/
def f_law_rank : SF :=
  (fSeqS (fBind (bTup (bCons (bName 1) (bCons (bName 2) bNil))) (fTake (fTup (fCons (fTake (fComp (fSeq (fName 0)) (bName 7) [7] fYes (fTake (fCall opList (fPCons (fName 7) fPNil))))) (fCons (fTake (fC (.int 0))) fNil))))) (fSeqS (fFor (fRng1 (fPCons (fCall opLen (fPCons (fBin opIx (fName 0) (fC (.int 0))) fPNil)) fPNil)) (bName 3) (fSeqS (fFrzS 4 (fSet 4 (fComp (fRng1 (fPCons (fCall opLen (fPCons (fName 1) fPNil)) fPNil)) (bName 8) [8] (fTru (fBin (opEq true) (fBin opIx (fBin opIx (fName 1) (fName 8)) (fName 3)) (fC (.int 0)))) (fTake (fName 8))))) (fSeqS (fIfS (fTru (fBin (opEq true) (fName 4) (fLst fNil))) (fSeqS (fBind (bTup (bCons (bName 5) (bCons (bName 2) bNil))) (fTake (fTup (fCons (fTake (fBin opIx (fName 1) (fBin opIx (fName 4) (fC (.int 0))))) (fCons (fTake (fBin opAdd (fName 2) (fC (.int 1)))) fNil))))) (fSeqS (fFrzS 6 (fSet 6 (fBin opAdd (fSl (fName 1) fNoPart (fPart (fBin opIx (fName 4) (fC (.int 0))))) (fSl (fName 1) (fPart (fBin opAdd (fBin opIx (fName 4) (fC (.int 0))) (fC (.int 1)))) fNoPart)))) (fSeqS (fFrzS 1 (fSet 1 (fComp (fSeq (fName 6)) (bName 7) [7] fYes (fTake (fComp (fZip (fCons (fTake (fName 7)) (fCons (fTake (fName 5)) fNil))) (bTup (bCons (bName 9) (bCons (bName 10) bNil))) [9, 10] fYes (fTake (fBin opSub (fBin opMul (fName 9) (fBin opIx (fName 5) (fName 3))) (fBin opMul (fName 10) (fBin opIx (fName 7) (fName 3)))))))))) fNextS))) fNextS) fNextS))) (fSeqS (fRet (fName 2)) fNextS)))
def F_law_rank : List Arg → FRes := fnF 11 f_law_rank
/-- _law_cut(rows): slots rows, row -/
def f_law_cut : SF :=
  (fSeqS (fun env => fWhileN (fTru (fBin opGt (fBin opSub (fCall opLen (fPCons (fBin opIx (fName 0) (fC (.int 0))) fPNil)) (fCallF 1 F_law_rank (aDat (fTake (fName 0)) aNil))) (fC (.int 3)))) (fSeqS (fFrzS 0 (fSet 0 (fComp (fSeq (fName 0)) (bName 1) [1] fYes (fTake (fSl (fName 1) fNoPart (fPart (fNeg (fC (.int 1))))))))) fNextS) FUEL env) (fSeqS (fRet (fName 0)) fNextS))
def F_law_cut : List Arg → FRes := fnF 2 f_law_cut
/-- _law_scale(deck): slots deck, way, wide, rows, kinds, many, kind, row, cell, column -/
def f_law_scale : SF :=
  (fSeqS (fFrzS 1 (fSet 1 (fCallF 2 F_law_draw (aRef 0 (aDat (fTake (fC (.int 4))) aNil))))) (fSeqS (fIfS (fTru (fBin opLt (fName 1) (fC (.int 2)))) (fSeqS (fRet (fTup (fCons (fTake (fCall opTuple (fPCons (fComp (fRng1 (fPCons (fBin opAdd (fC (.int 1)) (fCallF 2 F_law_draw (aRef 0 (aDat (fTake (fC (.int 4))) aNil)))) fPNil)) (bName 6) [6] fYes (fTake (fBin opAdd (fC (.int 1)) (fCallF 2 F_law_draw (aRef 0 (aDat (fTake (fC (.int 6))) aNil)))))) fPNil))) fNil))) fNextS) fNextS) (fSeqS (fIfS (fTru (fBin (opEq false) (fName 1) (fC (.int 2)))) (fSeqS (fSet 2 (fBin opAdd (fC (.int 2)) (fCallF 2 F_law_draw (aRef 0 (aDat (fTake (fC (.int 2))) aNil))))) (fSeqS (fFrzS 3 (fSet 3 (fComp (fRng1 (fPCons (fC (.int 2)) fPNil)) (bName 7) [7] fYes (fTake (fCall opTuple (fPCons (fComp (fRng1 (fPCons (fBin opMul (fC (.int 2)) (fName 2)) fPNil)) (bName 8) [8] fYes (fTake (fCall opToInt (fPCons (fBin (opEq false) (fBin opDiv (fName 8) (fName 2)) (fName 7)) fPNil)))) fPNil)))))) (fSeqS (fRet (fCall opTuple (fPCons (fBin opAdd (fName 3) (fComp (fRng1 (fPCons (fName 2) fPNil)) (bName 9) [9] fYes (fTake (fCall opTuple (fPCons (fComp (fRng1 (fPCons (fBin opMul (fC (.int 2)) (fName 2)) fPNil)) (bName 8) [8] fYes (fTake (fCall opToInt (fPCons (fBin (opEq false) (fBin opMod (fName 8) (fName 2)) (fName 9)) fPNil)))) fPNil))))) fPNil))) fNextS))) fNextS) (fSeqS (fBind (bTup (bCons (bName 4) (bCons (bName 5) bNil))) (fTake (fTup (fCons (fTake (fBin opAdd (fC (.int 2)) (fCallF 2 F_law_draw (aRef 0 (aDat (fTake (fC (.int 5))) aNil))))) (fCons (fTake (fBin opAdd (fC (.int 2)) (fCallF 2 F_law_draw (aRef 0 (aDat (fTake (fC (.int 5))) aNil))))) fNil))))) (fRows (fRng1 (fPCons (fName 5) fPNil)) (bName 7) [7] (fComp (fRng1 (fPCons (fName 4) fPNil)) (bName 6) [6] fYes (fTake (fCallF 2 F_law_draw (aRef 0 (aDat (fTake (fC (.int 2))) aNil))))) (fPCons (fName 4) fPNil) (fTru (fBin (opEq false) (fCall opSum (fPCons (fComp (fSeq (fName 3)) (bName 7) [7] fYes (fTake (fBin opIx (fName 7) (fName 6)))) fPNil)) (fC (.int 0)))) (fCallF 2 F_law_draw (aRef 0 (aDat (fTake (fName 5)) aNil))) 3 7 6 (fSeqS (fRet (fCall opTuple (fPCons (fComp (fSeq (fCallF 1 F_law_cut (aDat (fTake (fName 3)) aNil))) (bName 7) [7] fYes (fTake (fCall opTuple (fPCons (fName 7) fPNil)))) fPNil))) fNextS))))))
def F_law_scale : List Arg → FRes := fnF 10 f_law_scale
/-- _law_lot(scale, sums): slots scale, sums, found, kind, longer, counts, left, count, filled, later, most, row, one, full -/
def f_law_lot : SF :=
  (fSeqS (fFrzS 2 (fSet 2 (fLst (fCons (fTake (fTup (fCons (fTake (fTup fNil)) (fCons (fTake (fName 1)) fNil)))) fNil)))) (fSeqS (fFor (fRng1 (fPCons (fCall opLen (fPCons (fBin opIx (fName 0) (fC (.int 0))) fPNil)) fPNil)) (bName 3) (fSeqS (fSet 4 (fLst fNil)) (fSeqS (fFor (fSeq (fName 2)) (bTup (bCons (bName 5) (bCons (bName 6) bNil))) (fSeqS (fSet 7 (fC (.int 0))) (fSeqS (fun env => fWhileN (fTru (fBin opGe (fCall (opExt min) (fPCons (fName 6) fPNil)) (fC (.int 0)))) (fSeqS (fFrzS 8 (fSet 8 (fComp (fSeq (fName 0)) (bName 11) [11] fYes (fTake (fC (.int 0)))))) (fSeqS (fFor (fRng2 (fPCons (fBin opAdd (fName 3) (fC (.int 1))) (fPCons (fCall opLen (fPCons (fBin opIx (fName 0) (fC (.int 0))) fPNil)) fPNil))) (bName 9) (fSeqS (fSet 10 (fCall (opExt min) (fPCons (fComp (fZipM (fCons (fTake (fName 6)) (fCons (fTake (fName 0)) fNil))) (bTup (bCons (bName 12) (bCons (bName 11) bNil))) [12, 11] (fTru (fBin opGt (fBin opIx (fName 11) (fName 9)) (fC (.int 0)))) (fTake (fBin opDiv (fName 12) (fBin opIx (fName 11) (fName 9))))) fPNil))) (fSeqS (fFrzS 8 (fSet 8 (fComp (fZipM (fCons (fTake (fName 8)) (fCons (fTake (fName 0)) fNil))) (bTup (bCons (bName 12) (bCons (bName 11) bNil))) [12, 11] fYes (fTake (fBin opAdd (fName 12) (fBin opMul (fName 10) (fBin opIx (fName 11) (fName 9)))))))) fNextS))) (fSeqS (fIfS (fTru (fBin (opEq false) (fComp (fZipM (fCons (fTake (fName 6)) (fCons (fTake (fName 8)) fNil))) (bTup (bCons (bName 12) (bCons (bName 13) bNil))) [12, 13] (fTru (fBin opGt (fName 12) (fName 13))) (fTake (fC (.int 1)))) (fLst fNil))) (fSeqS (fExpr (fMeth1 4 opAppend (fTake (fTup (fCons (fTake (fBin opAdd (fName 5) (fTup (fCons (fTake (fName 7)) fNil)))) (fCons (fTake (fName 6)) fNil)))))) fNextS) fNextS) (fSeqS (fSet 6 (fCall opTuple (fPCons (fComp (fZipM (fCons (fTake (fName 6)) (fCons (fTake (fName 0)) fNil))) (bTup (bCons (bName 12) (bCons (bName 11) bNil))) [12, 11] fYes (fTake (fBin opSub (fName 12) (fBin opIx (fName 11) (fName 3))))) fPNil))) (fSeqS (fSet 7 (fBin opAdd (fName 7) (fC (.int 1)))) fNextS))))) FUEL env) fNextS))) (fSeqS (fFrzS 2 (fSet 2 (fCall opList (fPCons (fName 4) fPNil)))) fNextS)))) (fSeqS (fRet (fComp (fSeq (fName 2)) (bTup (bCons (bName 5) (bCons (bName 6) bNil))) [5, 6] fYes (fTake (fName 5)))) fNextS)))
def F_law_lot : List Arg → FRes := fnF 14 f_law_lot
/-- _law_sums(scale, heap): slots scale, heap, row, weight, count -/
def f_law_sums : SF :=
  (fSeqS (fRet (fCall opTuple (fPCons (fComp (fSeq (fName 0)) (bName 2) [2] fYes (fTake (fCall opSum (fPCons (fComp (fZipM (fCons (fTake (fName 2)) (fCons (fTake (fName 1)) fNil))) (bTup (bCons (bName 3) (bCons (bName 4) bNil))) [3, 4] fYes (fTake (fBin opMul (fName 3) (fName 4)))) fPNil)))) fPNil))) fNextS)
def F_law_sums : List Arg → FRes := fnF 5 f_law_sums
/-- _law_pick(deck, items): slots deck, items -/
def f_law_pick : SF :=
  (fSeqS (fRet (fBin opIx (fName 1) (fCallF 2 F_law_draw (aRef 0 (aDat (fTake (fCall opLen (fPCons (fName 1) fPNil))) aNil))))) fNextS)
def F_law_pick : List Arg → FRes := fnF 2 f_law_pick
/-- _law_heap(deck, scale, most): slots deck, scale, most, heap, at, kind -/
def f_law_heap : SF :=
  (fSeqS (fSet 3 (fComp (fSeq (fBin opIx (fName 1) (fC (.int 0)))) (bName 5) [5] fYes (fTake (fCallF 2 F_law_draw (aRef 0 (aDat (fTake (fC (.int 9))) aNil)))))) (fSeqS (fSet 4 (fC (.int 0))) (fSeqS (fun env => fWhileN (fLendT 3 (fTru (fBin opGt (fCall (opExt max) (fPCons (fCallF 2 F_law_sums (aDat (fTake (fName 1)) (aDat (fTake (fName 3)) aNil))) fPNil)) (fName 2)))) (fSeqS (fSetIx (fName 3) (fTake (fName 4)) (fTake (fBin opDiv (fBin opIx (fName 3) (fName 4)) (fC (.int 2))))) (fSeqS (fSet 4 (fBin opMod (fCall opToInt (fPCons (fBin opAdd (fName 4) (fC (.int 1))) fPNil)) (fCall opLen (fPCons (fName 3) fPNil)))) fNextS)) FUEL env) (fSeqS (fRet (fCall opTuple (fPCons (fName 3) fPNil))) fNextS))))
def F_law_heap : List Arg → FRes := fnF 6 f_law_heap
/-- _law_book(deck, scale, many): slots deck, scale, many, found, most, turn, heaps, one, other -/
def f_law_book : SF :=
  (fSeqS (fFrzS 4 (fPar 3 4 (fPCons (fLst fNil) (fPCons (fBin opIx (fLst (fCons (fTake (fC (.int 40))) (fCons (fTake (fC (.int 36))) (fCons (fTake (fC (.int 20))) (fCons (fTake (fC (.int 12))) (fCons (fTake (fC (.int 12))) (fCons (fTake (fC (.int 12))) fNil))))))) (fBin opSub (fCall opLen (fPCons (fBin opIx (fName 1) (fC (.int 0))) fPNil)) (fC (.int 1)))) fPNil)))) (fSeqS (fFor (fRng1 (fPCons (fName 2) fPNil)) (bName 5) (fSeqS (fFrzS 6 (fSet 6 (fCallF 2 F_law_lot (aDat (fTake (fName 1)) (aDat (fTake (fCallF 2 F_law_sums (aDat (fTake (fName 1)) (aDat (fTake (fCallF 3 F_law_heap (aRef 0 (aDat (fTake (fName 1)) (aDat (fTake (fName 4)) aNil))))) aNil)))) aNil))))) (fSeqS (fFrzS 8 (fFrzS 7 (fPar 7 8 (fPCons (fCallF 2 F_law_pick (aRef 0 (aDat (fTake (fName 6)) aNil))) (fPCons (fCallF 2 F_law_pick (aRef 0 (aDat (fTake (fName 6)) aNil))) fPNil))))) (fSeqS (fIfS (fAnd (fTru (fBin (opEq true) (fName 7) (fName 8))) (fAnd (fTru (fBin (opIn true) (fTup (fCons (fTake (fName 7)) (fCons (fTake (fName 8)) fNil))) (fName 3))) (fTru (fBin (opIn true) (fTup (fCons (fTake (fName 8)) (fCons (fTake (fName 7)) fNil))) (fName 3))))) (fSeqS (fExpr (fMeth1 3 opAppend (fTake (fTup (fCons (fTake (fName 7)) (fCons (fTake (fName 8)) fNil)))))) fNextS) fNextS) fNextS)))) (fSeqS (fRet (fCall opTuple (fPCons (fName 3) fPNil))) fNextS)))
def F_law_book : List Arg → FRes := fnF 9 f_law_book
/-- bare(exchange): slots exchange, take, put, one, other -/
def f_bare : SF :=
  (fSeqS (fSet 1 (fCall opTuple (fPCons (fComp (fZipM (fCons (fTake (fBin opIx (fName 0) (fC (.int 0)))) (fCons (fTake (fBin opIx (fName 0) (fC (.int 1)))) fNil))) (bTup (bCons (bName 3) (bCons (bName 4) bNil))) [3, 4] fYes (fTake (fCall opMax2 (fPCons (fC (.int 0)) (fPCons (fBin opSub (fName 3) (fName 4)) fPNil))))) fPNil))) (fSeqS (fSet 2 (fCall opTuple (fPCons (fComp (fZipM (fCons (fTake (fBin opIx (fName 0) (fC (.int 0)))) (fCons (fTake (fBin opIx (fName 0) (fC (.int 1)))) fNil))) (bTup (bCons (bName 3) (bCons (bName 4) bNil))) [3, 4] fYes (fTake (fCall opMax2 (fPCons (fC (.int 0)) (fPCons (fBin opSub (fName 4) (fName 3)) fPNil))))) fPNil))) (fSeqS (fRet (fTup (fCons (fTake (fName 1)) (fCons (fTake (fName 2)) fNil)))) fNextS)))
def F_bare : List Arg → FRes := fnF 5 f_bare
/-- _law_below(one, other): slots one, other, a, b -/
def f_law_below : SF :=
  (fSeqS (fRet (fBin (opEq false) (fComp (fZipM (fCons (fTake (fName 0)) (fCons (fTake (fName 1)) fNil))) (bTup (bCons (bName 2) (bCons (bName 3) bNil))) [2, 3] (fTru (fBin opGt (fName 2) (fName 3))) (fTake (fC (.int 1)))) (fLst fNil))) fNextS)
def F_law_below : List Arg → FRes := fnF 4 f_law_below
/-- is_below(one, other): slots one, other, count, more -/
def f_is_below : SF :=
  (fSeqS (fRet (fCall opAll (fPCons (fComp (fZipM (fCons (fTake (fName 0)) (fCons (fTake (fName 1)) fNil))) (bTup (bCons (bName 2) (bCons (bName 3) bNil))) [2, 3] fYes (fTake (fBin opLe (fName 2) (fName 3)))) fPNil))) fNextS)
def F_is_below : List Arg → FRes := fnF 4 f_is_below
/-- is_within(one, other): slots one, other -/
def f_is_within : SF :=
  (fSeqS (fIfS (fAnd (fTru (fCallF 2 F_is_below (aDat (fTake (fBin opIx (fName 0) (fC (.int 0)))) (aDat (fTake (fBin opIx (fName 1) (fC (.int 0)))) aNil)))) (fTru (fCallF 2 F_is_below (aDat (fTake (fBin opIx (fName 0) (fC (.int 1)))) (aDat (fTake (fBin opIx (fName 1) (fC (.int 1)))) aNil))))) (fSeqS (fRet (fC (.bool true))) fNextS) fNextS) (fSeqS (fRet (fAndV (fCallF 2 F_is_below (aDat (fTake (fBin opIx (fName 0) (fC (.int 0)))) (aDat (fTake (fBin opIx (fName 1) (fC (.int 1)))) aNil))) (fCallF 2 F_is_below (aDat (fTake (fBin opIx (fName 0) (fC (.int 1)))) (aDat (fTake (fBin opIx (fName 1) (fC (.int 0)))) aNil))))) fNextS))
def F_is_within : List Arg → FRes := fnF 2 f_is_within
def S_law_deck (script_ : List Int) : M ((List Int)) :=
  forM' (fun (a4 : Int) (s1 : Int × Int) =>
  (if (decide (((10 : Int) ^ ((18 : Int)).toNat) ≤ (absZ a4))) = true then (.ok ((s1.1 * (37 : Int)) + (absZ a4))) else (.ok s1.1)) >>= fun s5 =>
  .ok (s5, (((s1.2 * (6364136223846793005 : Int)) + ((((2 : Int) * (absZ a4)) + (b2i (decide (a4 < (0 : Int))))) + (1 : Int))) % (2305843009213693951 : Int)))) (cutD script_ none (some (60 : Int))) ((0 : Int), ((2845 : Int) + ((43 : Int) * ((script_).length : Int)))) >>= fun s1 =>
  .ok [s1.1, s1.2, (0 : Int)]
theorem L_law_deck (script_ : List Int) : FSim (F_law_deck [.d ((eL PyData.int) script_)]) (S_law_deck script_) (fun (r : (List Int)) => Ret.tmp (.lst (List.map PyData.int r))) (fun (r : (List Int)) => [.d ((eL PyData.int) script_)]) := by
  refine fs_mk ?_
  unfold S_law_deck
  refine sim_bnd0 ?_
  have e0 : envOf 5 [.d ((eL PyData.int) script_)] = [some (.d ((eL PyData.int) script_)), none, none, none, none] := rfl
  rw [e0]
  unfold f_law_deck
  refine c_blk ?_
  refine c_par ?_
  refine c_pcons ?_
  refine c_const ?_
  refine c_pcons ?_
  refine c_bin ?_
  refine c_const ?_
  refine c_bin ?_
  refine c_const ?_
  refine c_call ?_
  refine c_pcons ?_
  refine c_name rfl ?_
  refine c_pnil ?_
  refine cb_pure (xs := [(eL PyData.int) script_]) rfl lenL ?_
  refine b_pure rfl rfl (mul_litL (by decide)) ?_
  refine b_pure rfl rfl rfl ?_
  refine c_pnil ?_
  refine pa_t (e1 := [some (.d ((eL PyData.int) script_)), some (.d (PyData.int (0 : Int))), none, none, none]) (e2 := [some (.d ((eL PyData.int) script_)), some (.d (PyData.int (0 : Int))), some (.d (PyData.int ((2845 : Int) + ((43 : Int) * ((script_).length : Int))))), none, none]) rfl rfl rfl rfl (setS_ok rfl okO_none rfl) (setS_ok rfl okO_none rfl) ?_
  refine c_blk1 ?_
  refine c_for ?_
  refine c_seq ?_
  refine c_sl ?_
  refine c_name rfl ?_
  refine c_nopart ?_
  refine c_part ?_
  refine c_const ?_
  refine pt_pure rfl ?_
  refine sl_pure (v := (eL PyData.int) script_) rfl slL ?_
  refine sq_L (ds := List.map PyData.int (cutD script_ none (some (60 : Int)))) (lk := []) rfl rfl ?_
  refine fo_n (fun (s1 : Int × Int) (e : SE) => ∃ (o2 : Option MV), ∃ (o3 : Option MV), datO o2 ∧ datO o3 ∧ e = [some (.d ((eL PyData.int) script_)), some (.d (PyData.int s1.1)), some (.d (PyData.int s1.2)), o2, o3]) ⟨_, _, datO_none, datO_none, rfl⟩ (fun _ _ => trivial) ?_ ?_
  · intro a4 s1 e hK
    obtain ⟨o2, o3, ho2, ho3, he⟩ := hK
    subst he
    refine ⟨[some (.d ((eL PyData.int) script_)), some (.d (PyData.int s1.1)), some (.d (PyData.int s1.2)), some (.d (PyData.int a4)), o3], (bn (e' := [some (.d ((eL PyData.int) script_)), some (.d (PyData.int s1.1)), some (.d (PyData.int s1.2)), some (.d (PyData.int a4)), o3]) rfl (datO.ok ho2) rfl), ?_⟩
    refine sim_bnd0 ?_
    refine c_blk ?_
    refine c_set ?_
    refine c_bin ?_
    refine c_bin ?_
    refine c_bin ?_
    refine c_const ?_
    refine c_call ?_
    refine c_pcons ?_
    refine c_name rfl ?_
    refine c_pnil ?_
    refine cb_pure (r := .d (.int (absZ a4))) rfl rfl ?_
    refine b_pure rfl rfl (mul_litL (by decide)) ?_
    refine c_call ?_
    refine c_pcons ?_
    refine c_bin ?_
    refine c_name rfl ?_
    refine c_const ?_
    refine b_pure rfl rfl rfl ?_
    refine c_pnil ?_
    refine cb_pure (r := .d (.int (b2i (decide (a4 < (0 : Int)))))) rfl rfl ?_
    refine b_pure rfl rfl rfl ?_
    refine c_const ?_
    refine b_pure rfl rfl rfl ?_
    refine as_d (e' := [some (.d ((eL PyData.int) script_)), some (.d (PyData.int s1.1)), some (.d (PyData.int s1.2)), some (.d (PyData.int a4)), some (.d (PyData.int ((((2 : Int) * (absZ a4)) + (b2i (decide (a4 < (0 : Int))))) + (1 : Int))))]) rfl (datO.ok ho3) rfl ?_
    refine c_blk1 ?_
    refine c_set ?_
    refine c_bin ?_
    refine c_call ?_
    refine c_pcons ?_
    refine c_bin ?_
    refine c_bin ?_
    refine c_name rfl ?_
    refine c_const ?_
    refine b_pure rfl rfl (mul_litR (by decide)) ?_
    refine c_name rfl ?_
    refine b_pure rfl rfl rfl ?_
    refine c_pnil ?_
    refine cb_pure rfl rfl ?_
    refine c_const ?_
    refine b_pure rfl rfl (mod_lit (by decide)) ?_
    refine as_d (e' := [some (.d ((eL PyData.int) script_)), some (.d (PyData.int s1.1)), some (.d (PyData.int (((s1.2 * (6364136223846793005 : Int)) + ((((2 : Int) * (absZ a4)) + (b2i (decide (a4 < (0 : Int))))) + (1 : Int))) % (2305843009213693951 : Int)))), some (.d (PyData.int a4)), some (.d (PyData.int ((((2 : Int) * (absZ a4)) + (b2i (decide (a4 < (0 : Int))))) + (1 : Int))))]) rfl okO_d rfl ?_
    refine c_blk1 ?_
    refine c_ifS ?_
    refine c_tru ?_
    refine c_bin ?_
    refine c_call ?_
    refine c_pcons ?_
    refine c_name rfl ?_
    refine c_pnil ?_
    refine cb_pure (r := .d (.int (absZ a4))) rfl rfl ?_
    refine c_bin ?_
    refine c_const ?_
    refine c_const ?_
    refine b_pure rfl rfl (pow_lit (by decide +kernel)) ?_
    refine b_pure rfl rfl rfl ?_
    refine tr_pure rfl rfl ?_
    refine sim_bind (k1 := fun (s5 : Int) (fl : Fl) (e : SE) => fl = .nx ∧ e = [some (.d ((eL PyData.int) script_)), some (.d (PyData.int s5)), some (.d (PyData.int (((s1.2 * (6364136223846793005 : Int)) + ((((2 : Int) * (absZ a4)) + (b2i (decide (a4 < (0 : Int))))) + (1 : Int))) % (2305843009213693951 : Int)))), some (.d (PyData.int a4)), some (.d (PyData.int ((((2 : Int) * (absZ a4)) + (b2i (decide (a4 < (0 : Int))))) + (1 : Int))))]) (ite_s (fun _ => ?_) (fun _ => ?_)) ?_
    · refine sim_bnd0 ?_
      refine c_blk ?_
      refine c_set ?_
      refine c_bin ?_
      refine c_bin ?_
      refine c_name rfl ?_
      refine c_const ?_
      refine b_pure rfl rfl (mul_litR (by decide)) ?_
      refine c_call ?_
      refine c_pcons ?_
      refine c_name rfl ?_
      refine c_pnil ?_
      refine cb_pure (r := .d (.int (absZ a4))) rfl rfl ?_
      refine b_pure rfl rfl rfl ?_
      refine as_d (e' := [some (.d ((eL PyData.int) script_)), some (.d (PyData.int ((s1.1 * (37 : Int)) + (absZ a4)))), some (.d (PyData.int (((s1.2 * (6364136223846793005 : Int)) + ((((2 : Int) * (absZ a4)) + (b2i (decide (a4 < (0 : Int))))) + (1 : Int))) % (2305843009213693951 : Int)))), some (.d (PyData.int a4)), some (.d (PyData.int ((((2 : Int) * (absZ a4)) + (b2i (decide (a4 < (0 : Int))))) + (1 : Int))))]) rfl okO_d rfl ?_
      refine c_end1 ?_
      exact sim_ret ⟨rfl, rfl⟩
    · refine sim_bnd0 ?_
      refine c_end ?_
      exact sim_ret ⟨rfl, rfl⟩
    rintro s5 fl e ⟨rfl, rfl⟩
    refine c_end1 ?_
    exact sim_ret ⟨.inl rfl, ⟨_, _, datO_d, datO_d, rfl⟩⟩
  intro s1 e hK e' hu
  obtain ⟨o2, o3, ho2, ho3, he⟩ := hK
  obtain rfl : e' = [some (.d ((eL PyData.int) script_)), some (.d (PyData.int s1.1)), some (.d (PyData.int s1.2)), o2, o3] := by rw [← hu, he]; rfl
  clear hu he
  refine c_blk1 ?_
  refine c_ret ?_
  refine c_lst ?_
  refine c_cons ?_
  refine c_take ?_
  refine c_name rfl ?_
  refine t_pure rfl ?_
  refine c_cons ?_
  refine c_take ?_
  refine c_name rfl ?_
  refine t_pure rfl ?_
  refine c_cons ?_
  refine c_take ?_
  refine c_const ?_
  refine t_pure rfl ?_
  refine c_nil ?_
  refine ls_pure (ys := List.map PyData.int [s1.1, s1.2, (0 : Int)]) rfl rfl ?_
  refine rt_t ?_
  exact sim_ret ⟨.inl rfl, rfl⟩
def S_law_draw (deck_ : List Int) (many_ : Int) : M (Int × (List Int)) :=
  ixM deck_ (0 : Int) >>= fun it1 =>
  if (decide ((0 : Int) < it1)) = true then (ixM deck_ (0 : Int) >>= fun it2 =>
  modM it2 many_ >>= fun rem3 =>
  ixM deck_ (0 : Int) >>= fun it4 =>
  divM it4 many_ >>= fun quo5 =>
  setM deck_ (0 : Int) quo5 >>= fun ys6 =>
  .ok (rem3, ys6))
  else
  ixM deck_ (2 : Int) >>= fun it7 =>
  setM deck_ (2 : Int) (it7 + (1 : Int)) >>= fun ys8 =>
  ixM ys8 (1 : Int) >>= fun it9 =>
  ixM ys8 (2 : Int) >>= fun it10 =>
  mulM ((it9 + ((11400714819323198485 : Int) * it10)) % (18446744073709551557 : Int)) ((((it9 + ((11400714819323198485 : Int) * it10)) % (18446744073709551557 : Int)) % (4294967291 : Int)) + (11 : Int)) >>= fun mul11 =>
  mulM (mul11 % (2305843009213693951 : Int)) (mul11 % (2305843009213693951 : Int)) >>= fun mul12 =>
  modM ((mul12 % (2305843009213693921 : Int)) / (2048 : Int)) many_ >>= fun rem13 =>
  .ok (rem13, ys8)
theorem L_law_draw (deck_ : List Int) (many_ : Int) : FSim (F_law_draw [.bor (.lst (List.map PyData.int deck_)), .d (PyData.int many_)]) (S_law_draw deck_ many_) (fun (r : Int × (List Int)) => Ret.d (PyData.int r.1)) (fun (r : Int × (List Int)) => [.bor (.lst (List.map PyData.int r.2)), .d (PyData.int many_)]) := by
  refine fs_mk ?_
  unfold S_law_draw
  refine sim_bnd0 ?_
  have e0 : envOf 4 [.bor (.lst (List.map PyData.int deck_)), .d (PyData.int many_)] = [some (.cell .bor (.lst (List.map PyData.int deck_))), some (.d (PyData.int many_)), none, none] := rfl
  rw [e0]
  unfold f_law_draw
  refine c_blk ?_
  refine c_ifS ?_
  refine c_tru ?_
  refine c_bin ?_
  refine c_bin ?_
  refine c_cell rfl ?_
  refine c_const ?_
  refine b_part (u := (eL PyData.int) deck_) rfl rfl (ixS (e := PyData.int) (xs := deck_) rfl) ?_
  intro it1
  refine c_const ?_
  refine b_pure rfl rfl rfl ?_
  refine tr_pure rfl rfl ?_
  refine ite_b (fun _ => ?_) (fun _ => ?_)
  · refine c_blk ?_
    refine c_set ?_
    refine c_bin ?_
    refine c_call ?_
    refine c_pcons ?_
    refine c_bin ?_
    refine c_cell rfl ?_
    refine c_const ?_
    refine b_part (u := (eL PyData.int) deck_) rfl rfl (ixS (e := PyData.int) (xs := deck_) rfl) ?_
    intro it2
    refine c_pnil ?_
    refine cb_pure rfl rfl ?_
    refine c_name rfl ?_
    refine b_part rfl rfl modS ?_
    intro rem3
    refine as_d (e' := [some (.cell .bor (.lst (List.map PyData.int deck_))), some (.d (PyData.int many_)), some (.d (PyData.int rem3)), none]) rfl okO_none rfl ?_
    refine c_blk1 ?_
    refine c_setIx ?_
    refine c_take ?_
    refine c_bin ?_
    refine c_bin ?_
    refine c_cell rfl ?_
    refine c_const ?_
    refine b_part (u := (eL PyData.int) deck_) rfl rfl (ixS (e := PyData.int) (xs := deck_) rfl) ?_
    intro it4
    refine c_name rfl ?_
    refine b_part rfl rfl divS ?_
    intro quo5
    refine t_pure rfl ?_
    refine c_cell rfl ?_
    refine c_take ?_
    refine c_const ?_
    refine t_pure rfl ?_
    refine si_t (e := PyData.int) (a := quo5) (e2 := fun ys6 => [some (.cell .bor (.lst (List.map PyData.int ys6))), some (.d (PyData.int many_)), some (.d (PyData.int rem3)), none]) rfl rfl (fun _ => rfl) ?_
    intro ys6
    refine c_blk1 ?_
    refine c_ret ?_
    refine c_name rfl ?_
    refine rt_d ?_
    exact sim_ret ⟨.inl rfl, rfl⟩
  refine c_end ?_
  refine c_blk1 ?_
  refine c_setIx ?_
  refine c_take ?_
  refine c_bin ?_
  refine c_bin ?_
  refine c_cell rfl ?_
  refine c_const ?_
  refine b_part (u := (eL PyData.int) deck_) rfl rfl (ixS (e := PyData.int) (xs := deck_) rfl) ?_
  intro it7
  refine c_const ?_
  refine b_pure rfl rfl rfl ?_
  refine t_pure rfl ?_
  refine c_cell rfl ?_
  refine c_take ?_
  refine c_const ?_
  refine t_pure rfl ?_
  refine si_t (e := PyData.int) (a := (it7 + (1 : Int))) (e2 := fun ys8 => [some (.cell .bor (.lst (List.map PyData.int ys8))), some (.d (PyData.int many_)), none, none]) rfl rfl (fun _ => rfl) ?_
  intro ys8
  refine c_blk1 ?_
  refine c_set ?_
  refine c_bin ?_
  refine c_call ?_
  refine c_pcons ?_
  refine c_bin ?_
  refine c_bin ?_
  refine c_cell rfl ?_
  refine c_const ?_
  refine b_part (u := (eL PyData.int) ys8) rfl rfl (ixS (e := PyData.int) (xs := ys8) rfl) ?_
  intro it9
  refine c_bin ?_
  refine c_const ?_
  refine c_bin ?_
  refine c_cell rfl ?_
  refine c_const ?_
  refine b_part (u := (eL PyData.int) ys8) rfl rfl (ixS (e := PyData.int) (xs := ys8) rfl) ?_
  intro it10
  refine b_pure rfl rfl (mul_litL (by decide)) ?_
  refine b_pure rfl rfl rfl ?_
  refine c_pnil ?_
  refine cb_pure rfl rfl ?_
  refine c_const ?_
  refine b_pure rfl rfl (mod_lit (by decide)) ?_
  refine as_d (e' := [some (.cell .bor (.lst (List.map PyData.int ys8))), some (.d (PyData.int many_)), none, some (.d (PyData.int ((it9 + ((11400714819323198485 : Int) * it10)) % (18446744073709551557 : Int))))]) rfl okO_none rfl ?_
  refine c_blk1 ?_
  refine c_set ?_
  refine c_bin ?_
  refine c_call ?_
  refine c_pcons ?_
  refine c_bin ?_
  refine c_name rfl ?_
  refine c_bin ?_
  refine c_bin ?_
  refine c_name rfl ?_
  refine c_const ?_
  refine b_pure rfl rfl (mod_lit (by decide)) ?_
  refine c_const ?_
  refine b_pure rfl rfl rfl ?_
  refine b_part rfl rfl mulS ?_
  intro mul11
  refine c_pnil ?_
  refine cb_pure rfl rfl ?_
  refine c_const ?_
  refine b_pure rfl rfl (mod_lit (by decide)) ?_
  refine as_d (e' := [some (.cell .bor (.lst (List.map PyData.int ys8))), some (.d (PyData.int many_)), none, some (.d (PyData.int (mul11 % (2305843009213693951 : Int))))]) rfl okO_d rfl ?_
  refine c_blk1 ?_
  refine c_ret ?_
  refine c_bin ?_
  refine c_bin ?_
  refine c_bin ?_
  refine c_call ?_
  refine c_pcons ?_
  refine c_bin ?_
  refine c_name rfl ?_
  refine c_name rfl ?_
  refine b_part rfl rfl mulS ?_
  intro mul12
  refine c_pnil ?_
  refine cb_pure rfl rfl ?_
  refine c_const ?_
  refine b_pure rfl rfl (mod_lit (by decide)) ?_
  refine c_const ?_
  refine b_pure rfl rfl (div_lit (by decide +kernel)) ?_
  refine c_name rfl ?_
  refine b_part rfl rfl modS ?_
  intro rem13
  refine rt_d ?_
  exact sim_ret ⟨.inl rfl, rfl⟩
def S_law_rank (rows_ : List (List Int)) : M (Int) :=
  lenG (List.map (fun (a1 : List Int) => a1) rows_) >>= fun xs2 =>
  ixM rows_ (0 : Int) >>= fun it3 =>
  range1M ((it3).length : Int) >>= fun rng4 =>
  forM' (fun (a10 : Int) (s5 : (List (List Int)) × Int) =>
  range1M ((s5.1).length : Int) >>= fun rng11 =>
  compP (fun (a12 : Int) => ixM s5.1 a12 >>= fun it13 =>
  ixM it13 a10 >>= fun it14 =>
  if (!eqD it14 (0 : Int)) = true then (.ok (some a12)) else (.ok none)) rng11 >>= fun xs15 =>
  (if (!eqD xs15 ([] : List Int)) = true then (ixM xs15 (0 : Int) >>= fun it19 =>
  ixM s5.1 it19 >>= fun it20 =>
  ixM xs15 (0 : Int) >>= fun it21 =>
  ixM xs15 (0 : Int) >>= fun it22 =>
  lenG ((cutD s5.1 none (some it21)) ++ (cutD s5.1 (some (it22 + (1 : Int))) none)) >>= fun cat23 =>
  compP (fun (a24 : List Int) => compP (fun (a25 : Int × Int) => ixM ((it20, (s5.2 + (1 : Int))).1) a10 >>= fun it26 =>
  mulM a25.1 it26 >>= fun mul27 =>
  ixM a24 a10 >>= fun it28 =>
  mulM a25.2 it28 >>= fun mul29 =>
  .ok (some (mul27 - mul29))) (List.zip a24 ((it20, (s5.2 + (1 : Int))).1)) >>= fun xs30 =>
  .ok (some xs30)) cat23 >>= fun xs31 =>
  .ok (xs31, (it20, (s5.2 + (1 : Int))).2)) else (.ok (s5.1, s5.2))) >>= fun s16 =>
  .ok (s16.1, s16.2)) rng4 ((xs2, (0 : Int)).1, (xs2, (0 : Int)).2) >>= fun s5 =>
  .ok s5.2
theorem L_law_rank (rows_ : List (List Int)) : FSim (F_law_rank [.d ((eL (eL PyData.int)) rows_)]) (S_law_rank rows_) (fun (r : Int) => Ret.d (PyData.int r)) (fun (r : Int) => [.d ((eL (eL PyData.int)) rows_)]) := by
  refine fs_mk ?_
  unfold S_law_rank
  refine sim_bnd0 ?_
  have e0 : envOf 11 [.d ((eL (eL PyData.int)) rows_)] = [some (.d ((eL (eL PyData.int)) rows_)), none, none, none, none, none, none, none, none, none, none] := rfl
  rw [e0]
  unfold f_law_rank
  refine c_blk ?_
  refine c_bindS ?_
  refine c_take ?_
  refine c_tup ?_
  refine c_cons ?_
  refine c_take ?_
  refine c_comp ?_
  refine c_seq ?_
  refine c_name rfl ?_
  refine sq_L (ds := List.map (eL PyData.int) rows_) (lk := []) rfl rfl ?_
  refine co_m (enc' := (eL PyData.int)) (el := [some (.d ((eL (eL PyData.int)) rows_)), none, none, none, none, none, none, none, none, none, none]) rfl (nc_cons rfl datO_none nc_nil) rfl ?_ ?_
  · intro a1
    refine ⟨[some (.d ((eL (eL PyData.int)) rows_)), none, none, none, none, none, none, some (.d ((eL PyData.int) a1)), none, none, none], (bn (e' := [some (.d ((eL (eL PyData.int)) rows_)), none, none, none, none, none, none, some (.d ((eL PyData.int) a1)), none, none, none]) rfl okO_none rfl), ?_⟩
    refine c_turnY ?_
    refine c_take ?_
    refine c_call ?_
    refine c_pcons ?_
    refine c_name rfl ?_
    refine c_pnil ?_
    refine cb_pure (r := .tmp (.lst (List.map PyData.int a1))) rfl rfl ?_
    refine t_pure (v := (eL PyData.int) a1) rfl ?_
    exact sim_ret ⟨rfl, rfl⟩
  intro xs2
  refine t_pure (v := (eL (eL PyData.int)) xs2) rfl ?_
  refine c_cons ?_
  refine c_take ?_
  refine c_const ?_
  refine t_pure rfl ?_
  refine c_nil ?_
  refine tu_pure (v := (eP (eL (eL PyData.int)) PyData.int) (xs2, (0 : Int))) rfl rfl ?_
  refine t_pure rfl ?_
  refine bi_t (bt_tup rfl (bt_cons (bn (e' := [some (.d ((eL (eL PyData.int)) rows_)), some (.d ((eL (eL PyData.int)) ((xs2, (0 : Int)).1))), none, none, none, none, none, none, none, none, none]) rfl okO_none rfl) (bt_cons (bn (e' := [some (.d ((eL (eL PyData.int)) rows_)), some (.d ((eL (eL PyData.int)) ((xs2, (0 : Int)).1))), some (.d (PyData.int ((xs2, (0 : Int)).2))), none, none, none, none, none, none, none, none]) rfl okO_none rfl) bt_nil))) ?_
  refine c_blk1 ?_
  refine c_for ?_
  refine c_rng1 ?_
  refine c_pcons ?_
  refine c_call ?_
  refine c_pcons ?_
  refine c_bin ?_
  refine c_name rfl ?_
  refine c_const ?_
  refine b_part (u := (eL (eL PyData.int)) rows_) rfl rfl (ixS (e := (eL PyData.int)) (xs := rows_) rfl) ?_
  intro it3
  refine c_pnil ?_
  refine cb_pure (xs := [(eL PyData.int) it3]) rfl lenL ?_
  refine c_pnil ?_
  refine r1_part rfl ?_
  intro rng4
  refine fo_n (fun (s5 : (List (List Int)) × Int) (e : SE) => ∃ (o6 : Option MV), ∃ (o7 : Option MV), ∃ (o8 : Option MV), ∃ (o9 : Option MV), datO o6 ∧ datO o7 ∧ datO o8 ∧ datO o9 ∧ e = [some (.d ((eL (eL PyData.int)) rows_)), some (.d ((eL (eL PyData.int)) s5.1)), some (.d (PyData.int s5.2)), o6, o7, o8, o9, none, none, none, none]) ⟨_, _, _, _, datO_none, datO_none, datO_none, datO_none, rfl⟩ (fun _ _ => trivial) ?_ ?_
  · intro a10 s5 e hK
    obtain ⟨o6, o7, o8, o9, ho6, ho7, ho8, ho9, he⟩ := hK
    subst he
    refine ⟨[some (.d ((eL (eL PyData.int)) rows_)), some (.d ((eL (eL PyData.int)) s5.1)), some (.d (PyData.int s5.2)), some (.d (PyData.int a10)), o7, o8, o9, none, none, none, none], (bn (e' := [some (.d ((eL (eL PyData.int)) rows_)), some (.d ((eL (eL PyData.int)) s5.1)), some (.d (PyData.int s5.2)), some (.d (PyData.int a10)), o7, o8, o9, none, none, none, none]) rfl (datO.ok ho6) rfl), ?_⟩
    refine sim_bnd0 ?_
    refine c_blk ?_
    refine c_frz ?_
    refine c_set ?_
    refine c_comp ?_
    refine c_rng1 ?_
    refine c_pcons ?_
    refine c_call ?_
    refine c_pcons ?_
    refine c_name rfl ?_
    refine c_pnil ?_
    refine cb_pure (xs := [(eL (eL PyData.int)) s5.1]) rfl lenL ?_
    refine c_pnil ?_
    refine r1_part rfl ?_
    intro rng11
    refine co_p (enc' := PyData.int) (el := [some (.d ((eL (eL PyData.int)) rows_)), some (.d ((eL (eL PyData.int)) s5.1)), some (.d (PyData.int s5.2)), some (.d (PyData.int a10)), o7, o8, o9, none, none, none, none]) rfl (nc_cons rfl datO_none nc_nil) rfl ?_ ?_
    · intro a12
      refine ⟨[some (.d ((eL (eL PyData.int)) rows_)), some (.d ((eL (eL PyData.int)) s5.1)), some (.d (PyData.int s5.2)), some (.d (PyData.int a10)), o7, o8, o9, none, some (.d (PyData.int a12)), none, none], (bn (e' := [some (.d ((eL (eL PyData.int)) rows_)), some (.d ((eL (eL PyData.int)) s5.1)), some (.d (PyData.int s5.2)), some (.d (PyData.int a10)), o7, o8, o9, none, some (.d (PyData.int a12)), none, none]) rfl okO_none rfl), ?_⟩
      refine c_turn ?_
      refine c_tru ?_
      refine c_bin ?_
      refine c_bin ?_
      refine c_bin ?_
      refine c_name rfl ?_
      refine c_name rfl ?_
      refine b_part (u := (eL (eL PyData.int)) s5.1) rfl rfl (ixS (e := (eL PyData.int)) (xs := s5.1) rfl) ?_
      intro it13
      refine c_name rfl ?_
      refine b_part (u := (eL PyData.int) it13) rfl rfl (ixS (e := PyData.int) (xs := it13) rfl) ?_
      intro it14
      refine c_const ?_
      refine b_pure (u := PyData.int it14) (v := PyData.int (0 : Int)) rfl rfl (ne_t EqT.I (by decide)) ?_
      refine tr_pure rfl rfl ?_
      refine ite_s (fun _ => ?_) (fun _ => ?_)
      · refine c_take ?_
        refine c_name rfl ?_
        refine t_pure rfl ?_
        exact sim_ret ⟨rfl, rfl⟩
      · exact sim_ret ⟨rfl, rfl⟩
    intro xs15
    refine as_t (e' := [some (.d ((eL (eL PyData.int)) rows_)), some (.d ((eL (eL PyData.int)) s5.1)), some (.d (PyData.int s5.2)), some (.d (PyData.int a10)), some (.cell .own (.lst (List.map PyData.int xs15))), o8, o9, none, none, none, none]) rfl (datO.ok ho7) rfl ?_
    refine fz_t (v := (eL PyData.int) xs15) (e' := [some (.d ((eL (eL PyData.int)) rows_)), some (.d ((eL (eL PyData.int)) s5.1)), some (.d (PyData.int s5.2)), some (.d (PyData.int a10)), some (.d ((eL PyData.int) xs15)), o8, o9, none, none, none, none]) rfl ?_
    refine c_blk1 ?_
    refine c_ifS ?_
    refine c_tru ?_
    refine c_bin ?_
    refine c_name rfl ?_
    refine c_lst ?_
    refine c_nil ?_
    refine ls_pure (ys := List.map PyData.int ([] : List Int)) rfl rfl ?_
    refine b_pure (u := (eL PyData.int) xs15) (v := (eL PyData.int) ([] : List Int)) rfl rfl (ne_t (EqT.L EqT.I) (by decide)) ?_
    refine tr_pure rfl rfl ?_
    refine sim_bind (k1 := fun (s16 : (List (List Int)) × Int) (fl : Fl) (e : SE) => fl = .nx ∧ ∃ (o17 : Option MV), ∃ (o18 : Option MV), datO o17 ∧ datO o18 ∧ e = [some (.d ((eL (eL PyData.int)) rows_)), some (.d ((eL (eL PyData.int)) s16.1)), some (.d (PyData.int s16.2)), some (.d (PyData.int a10)), some (.d ((eL PyData.int) xs15)), o17, o18, none, none, none, none]) (ite_s (fun _ => ?_) (fun _ => ?_)) ?_
    · refine sim_bnd0 ?_
      refine c_blk ?_
      refine c_bindS ?_
      refine c_take ?_
      refine c_tup ?_
      refine c_cons ?_
      refine c_take ?_
      refine c_bin ?_
      refine c_name rfl ?_
      refine c_bin ?_
      refine c_name rfl ?_
      refine c_const ?_
      refine b_part (u := (eL PyData.int) xs15) rfl rfl (ixS (e := PyData.int) (xs := xs15) rfl) ?_
      intro it19
      refine b_part (u := (eL (eL PyData.int)) s5.1) rfl rfl (ixS (e := (eL PyData.int)) (xs := s5.1) rfl) ?_
      intro it20
      refine t_pure rfl ?_
      refine c_cons ?_
      refine c_take ?_
      refine c_bin ?_
      refine c_name rfl ?_
      refine c_const ?_
      refine b_pure rfl rfl rfl ?_
      refine t_pure rfl ?_
      refine c_nil ?_
      refine tu_pure (v := (eP (eL PyData.int) PyData.int) (it20, (s5.2 + (1 : Int)))) rfl rfl ?_
      refine t_pure rfl ?_
      refine bi_t (bt_tup rfl (bt_cons (bn (e' := [some (.d ((eL (eL PyData.int)) rows_)), some (.d ((eL (eL PyData.int)) s5.1)), some (.d (PyData.int s5.2)), some (.d (PyData.int a10)), some (.d ((eL PyData.int) xs15)), some (.d ((eL PyData.int) ((it20, (s5.2 + (1 : Int))).1))), o9, none, none, none, none]) rfl (datO.ok ho8) rfl) (bt_cons (bn (e' := [some (.d ((eL (eL PyData.int)) rows_)), some (.d ((eL (eL PyData.int)) s5.1)), some (.d (PyData.int ((it20, (s5.2 + (1 : Int))).2))), some (.d (PyData.int a10)), some (.d ((eL PyData.int) xs15)), some (.d ((eL PyData.int) ((it20, (s5.2 + (1 : Int))).1))), o9, none, none, none, none]) rfl okO_d rfl) bt_nil))) ?_
      refine c_blk1 ?_
      refine c_frz ?_
      refine c_set ?_
      refine c_bin ?_
      refine c_sl ?_
      refine c_name rfl ?_
      refine c_nopart ?_
      refine c_part ?_
      refine c_bin ?_
      refine c_name rfl ?_
      refine c_const ?_
      refine b_part (u := (eL PyData.int) xs15) rfl rfl (ixS (e := PyData.int) (xs := xs15) rfl) ?_
      intro it21
      refine pt_pure rfl ?_
      refine sl_pure (v := (eL (eL PyData.int)) s5.1) rfl slL ?_
      refine c_sl ?_
      refine c_name rfl ?_
      refine c_part ?_
      refine c_bin ?_
      refine c_bin ?_
      refine c_name rfl ?_
      refine c_const ?_
      refine b_part (u := (eL PyData.int) xs15) rfl rfl (ixS (e := PyData.int) (xs := xs15) rfl) ?_
      intro it22
      refine c_const ?_
      refine b_pure rfl rfl rfl ?_
      refine pt_pure rfl ?_
      refine c_nopart ?_
      refine sl_pure (v := (eL (eL PyData.int)) s5.1) rfl slL ?_
      refine b_part (u := (eL (eL PyData.int)) (cutD s5.1 none (some it21))) (v := (eL (eL PyData.int)) (cutD s5.1 (some (it22 + (1 : Int))) none)) rfl rfl (catL (e := (eL PyData.int))) ?_
      intro cat23
      refine as_t (e' := [some (.d ((eL (eL PyData.int)) rows_)), some (.d ((eL (eL PyData.int)) s5.1)), some (.d (PyData.int ((it20, (s5.2 + (1 : Int))).2))), some (.d (PyData.int a10)), some (.d ((eL PyData.int) xs15)), some (.d ((eL PyData.int) ((it20, (s5.2 + (1 : Int))).1))), some (.cell .own (.lst (List.map (eL PyData.int) cat23))), none, none, none, none]) rfl (datO.ok ho9) rfl ?_
      refine fz_t (v := (eL (eL PyData.int)) cat23) (e' := [some (.d ((eL (eL PyData.int)) rows_)), some (.d ((eL (eL PyData.int)) s5.1)), some (.d (PyData.int ((it20, (s5.2 + (1 : Int))).2))), some (.d (PyData.int a10)), some (.d ((eL PyData.int) xs15)), some (.d ((eL PyData.int) ((it20, (s5.2 + (1 : Int))).1))), some (.d ((eL (eL PyData.int)) cat23)), none, none, none, none]) rfl ?_
      refine c_blk1 ?_
      refine c_frz ?_
      refine c_set ?_
      refine c_comp ?_
      refine c_seq ?_
      refine c_name rfl ?_
      refine sq_L (ds := List.map (eL PyData.int) cat23) (lk := []) rfl rfl ?_
      refine co_p (enc' := (eL PyData.int)) (el := [some (.d ((eL (eL PyData.int)) rows_)), some (.d ((eL (eL PyData.int)) s5.1)), some (.d (PyData.int ((it20, (s5.2 + (1 : Int))).2))), some (.d (PyData.int a10)), some (.d ((eL PyData.int) xs15)), some (.d ((eL PyData.int) ((it20, (s5.2 + (1 : Int))).1))), some (.d ((eL (eL PyData.int)) cat23)), none, none, none, none]) rfl (nc_cons rfl datO_none nc_nil) rfl ?_ ?_
      · intro a24
        refine ⟨[some (.d ((eL (eL PyData.int)) rows_)), some (.d ((eL (eL PyData.int)) s5.1)), some (.d (PyData.int ((it20, (s5.2 + (1 : Int))).2))), some (.d (PyData.int a10)), some (.d ((eL PyData.int) xs15)), some (.d ((eL PyData.int) ((it20, (s5.2 + (1 : Int))).1))), some (.d ((eL (eL PyData.int)) cat23)), some (.d ((eL PyData.int) a24)), none, none, none], (bn (e' := [some (.d ((eL (eL PyData.int)) rows_)), some (.d ((eL (eL PyData.int)) s5.1)), some (.d (PyData.int ((it20, (s5.2 + (1 : Int))).2))), some (.d (PyData.int a10)), some (.d ((eL PyData.int) xs15)), some (.d ((eL PyData.int) ((it20, (s5.2 + (1 : Int))).1))), some (.d ((eL (eL PyData.int)) cat23)), some (.d ((eL PyData.int) a24)), none, none, none]) rfl okO_none rfl), ?_⟩
        refine c_turnY ?_
        refine c_take ?_
        refine c_comp ?_
        refine c_zip ?_
        refine c_cons ?_
        refine c_take ?_
        refine c_name rfl ?_
        refine t_pure rfl ?_
        refine c_cons ?_
        refine c_take ?_
        refine c_name rfl ?_
        refine t_pure rfl ?_
        refine c_nil ?_
        refine z0_L (e := PyData.int) (f := PyData.int) (xs := a24) (ys := (it20, (s5.2 + (1 : Int))).1) ?_
        refine co_p (enc' := PyData.int) (el := [some (.d ((eL (eL PyData.int)) rows_)), some (.d ((eL (eL PyData.int)) s5.1)), some (.d (PyData.int ((it20, (s5.2 + (1 : Int))).2))), some (.d (PyData.int a10)), some (.d ((eL PyData.int) xs15)), some (.d ((eL PyData.int) ((it20, (s5.2 + (1 : Int))).1))), some (.d ((eL (eL PyData.int)) cat23)), some (.d ((eL PyData.int) a24)), none, none, none]) rfl (nc_cons rfl datO_none (nc_cons rfl datO_none nc_nil)) rfl ?_ ?_
        · intro a25
          refine ⟨[some (.d ((eL (eL PyData.int)) rows_)), some (.d ((eL (eL PyData.int)) s5.1)), some (.d (PyData.int ((it20, (s5.2 + (1 : Int))).2))), some (.d (PyData.int a10)), some (.d ((eL PyData.int) xs15)), some (.d ((eL PyData.int) ((it20, (s5.2 + (1 : Int))).1))), some (.d ((eL (eL PyData.int)) cat23)), some (.d ((eL PyData.int) a24)), none, some (.d (PyData.int a25.1)), some (.d (PyData.int a25.2))], (bt_tup rfl (bt_cons (bn (e' := [some (.d ((eL (eL PyData.int)) rows_)), some (.d ((eL (eL PyData.int)) s5.1)), some (.d (PyData.int ((it20, (s5.2 + (1 : Int))).2))), some (.d (PyData.int a10)), some (.d ((eL PyData.int) xs15)), some (.d ((eL PyData.int) ((it20, (s5.2 + (1 : Int))).1))), some (.d ((eL (eL PyData.int)) cat23)), some (.d ((eL PyData.int) a24)), none, some (.d (PyData.int a25.1)), none]) rfl okO_none rfl) (bt_cons (bn (e' := [some (.d ((eL (eL PyData.int)) rows_)), some (.d ((eL (eL PyData.int)) s5.1)), some (.d (PyData.int ((it20, (s5.2 + (1 : Int))).2))), some (.d (PyData.int a10)), some (.d ((eL PyData.int) xs15)), some (.d ((eL PyData.int) ((it20, (s5.2 + (1 : Int))).1))), some (.d ((eL (eL PyData.int)) cat23)), some (.d ((eL PyData.int) a24)), none, some (.d (PyData.int a25.1)), some (.d (PyData.int a25.2))]) rfl okO_none rfl) bt_nil))), ?_⟩
          refine c_turnY ?_
          refine c_take ?_
          refine c_bin ?_
          refine c_bin ?_
          refine c_name rfl ?_
          refine c_bin ?_
          refine c_name rfl ?_
          refine c_name rfl ?_
          refine b_part (u := (eL PyData.int) ((it20, (s5.2 + (1 : Int))).1)) rfl rfl (ixS (e := PyData.int) (xs := (it20, (s5.2 + (1 : Int))).1) rfl) ?_
          intro it26
          refine b_part rfl rfl mulS ?_
          intro mul27
          refine c_bin ?_
          refine c_name rfl ?_
          refine c_bin ?_
          refine c_name rfl ?_
          refine c_name rfl ?_
          refine b_part (u := (eL PyData.int) a24) rfl rfl (ixS (e := PyData.int) (xs := a24) rfl) ?_
          intro it28
          refine b_part rfl rfl mulS ?_
          intro mul29
          refine b_pure rfl rfl rfl ?_
          refine t_pure rfl ?_
          exact sim_ret ⟨rfl, rfl⟩
        intro xs30
        refine t_pure (v := (eL PyData.int) xs30) rfl ?_
        exact sim_ret ⟨rfl, rfl⟩
      intro xs31
      refine as_t (e' := [some (.d ((eL (eL PyData.int)) rows_)), some (.cell .own (.lst (List.map (eL PyData.int) xs31))), some (.d (PyData.int ((it20, (s5.2 + (1 : Int))).2))), some (.d (PyData.int a10)), some (.d ((eL PyData.int) xs15)), some (.d ((eL PyData.int) ((it20, (s5.2 + (1 : Int))).1))), some (.d ((eL (eL PyData.int)) cat23)), none, none, none, none]) rfl okO_d rfl ?_
      refine fz_t (v := (eL (eL PyData.int)) xs31) (e' := [some (.d ((eL (eL PyData.int)) rows_)), some (.d ((eL (eL PyData.int)) xs31)), some (.d (PyData.int ((it20, (s5.2 + (1 : Int))).2))), some (.d (PyData.int a10)), some (.d ((eL PyData.int) xs15)), some (.d ((eL PyData.int) ((it20, (s5.2 + (1 : Int))).1))), some (.d ((eL (eL PyData.int)) cat23)), none, none, none, none]) rfl ?_
      refine c_end1 ?_
      exact sim_ret ⟨rfl, _, _, datO_d, datO_d, rfl⟩
    · refine sim_bnd0 ?_
      refine c_end ?_
      exact sim_ret ⟨rfl, _, _, ho8, ho9, rfl⟩
    rintro s16 fl e ⟨rfl, o17, o18, ho17, ho18, rfl⟩
    refine c_end1 ?_
    exact sim_ret ⟨.inl rfl, ⟨_, _, _, _, datO_d, datO_d, ho17, ho18, rfl⟩⟩
  intro s5 e hK e' hu
  obtain ⟨o6, o7, o8, o9, ho6, ho7, ho8, ho9, he⟩ := hK
  obtain rfl : e' = [some (.d ((eL (eL PyData.int)) rows_)), some (.d ((eL (eL PyData.int)) s5.1)), some (.d (PyData.int s5.2)), o6, o7, o8, o9, none, none, none, none] := by rw [← hu, he]; rfl
  clear hu he
  refine c_blk1 ?_
  refine c_ret ?_
  refine c_name rfl ?_
  refine rt_d ?_
  exact sim_ret ⟨.inl rfl, rfl⟩
def S_law_cut (rows_ : List (List Int)) : M ((List (List Int))) :=
  whileM (fun (s1 : (List (List Int))) => ixM s1 (0 : Int) >>= fun it2 =>
  S_law_rank s1 >>= fun r3 =>
  .ok (decide ((3 : Int) < (((it2).length : Int) - r3)))) (fun (s1 : (List (List Int))) =>
  lenG (List.map (fun (a4 : List Int) => (cutD a4 none (some (-1 : Int)))) s1) >>= fun xs5 =>
  .ok xs5) FUEL rows_ >>= fun s1 =>
  .ok s1
theorem L_law_cut (rows_ : List (List Int)) : FSim (F_law_cut [.d ((eL (eL PyData.int)) rows_)]) (S_law_cut rows_) (fun (r : (List (List Int))) => Ret.d ((eL (eL PyData.int)) r)) (fun (r : (List (List Int))) => [.d ((eL (eL PyData.int)) rows_)]) := by
  refine fs_mk ?_
  unfold S_law_cut
  refine sim_bnd0 ?_
  have e0 : envOf 2 [.d ((eL (eL PyData.int)) rows_)] = [some (.d ((eL (eL PyData.int)) rows_)), none] := rfl
  rw [e0]
  unfold f_law_cut
  refine c_blk ?_
  refine wh_n (fun (s1 : (List (List Int))) (e : SE) => e = [some (.d ((eL (eL PyData.int)) s1)), none]) rfl ?_ ?_ ?_
  · intro s1 e hK
    have he := hK
    subst he
    refine sim_bnd0 ?_
    refine c_tru ?_
    refine c_bin ?_
    refine c_bin ?_
    refine c_call ?_
    refine c_pcons ?_
    refine c_bin ?_
    refine c_name rfl ?_
    refine c_const ?_
    refine b_part (u := (eL (eL PyData.int)) s1) rfl rfl (ixS (e := (eL PyData.int)) (xs := s1) rfl) ?_
    intro it2
    refine c_pnil ?_
    refine cb_pure (xs := [(eL PyData.int) it2]) rfl lenL ?_
    refine c_callF ?_
    refine c_adat ?_
    refine c_take ?_
    refine c_name rfl ?_
    refine t_pure rfl ?_
    refine c_anil ?_
    refine cf_s (e2 := fun r3 => [some (.d ((eL (eL PyData.int)) s1)), none]) (L_law_rank s1) (show List.Nodup ([] : List Nat) by decide) rfl rfl (fun _ => rfl) (fun _ => trivial) ?_
    intro r3
    refine b_pure rfl rfl rfl ?_
    refine c_const ?_
    refine b_pure rfl rfl rfl ?_
    refine tr_pure rfl rfl ?_
    exact sim_ret ⟨rfl, rfl⟩
  · intro s1 e hK
    have he := hK
    subst he
    refine sim_bnd0 ?_
    refine c_blk ?_
    refine c_frz ?_
    refine c_set ?_
    refine c_comp ?_
    refine c_seq ?_
    refine c_name rfl ?_
    refine sq_L (ds := List.map (eL PyData.int) s1) (lk := []) rfl rfl ?_
    refine co_m (enc' := (eL PyData.int)) (el := [some (.d ((eL (eL PyData.int)) s1)), none]) rfl (nc_cons rfl datO_none nc_nil) rfl ?_ ?_
    · intro a4
      refine ⟨[some (.d ((eL (eL PyData.int)) s1)), some (.d ((eL PyData.int) a4))], (bn (e' := [some (.d ((eL (eL PyData.int)) s1)), some (.d ((eL PyData.int) a4))]) rfl okO_none rfl), ?_⟩
      refine c_turnY ?_
      refine c_take ?_
      refine c_sl ?_
      refine c_name rfl ?_
      refine c_nopart ?_
      refine c_part ?_
      refine c_neg ?_
      refine c_const ?_
      refine n_pure rfl ?_
      refine pt_pure rfl ?_
      refine sl_pure (v := (eL PyData.int) a4) rfl slL ?_
      refine t_pure (v := (eL PyData.int) (cutD a4 none (some (-1 : Int)))) rfl ?_
      exact sim_ret ⟨rfl, rfl⟩
    intro xs5
    refine as_t (e' := [some (.cell .own (.lst (List.map (eL PyData.int) xs5))), none]) rfl okO_d rfl ?_
    refine fz_t (v := (eL (eL PyData.int)) xs5) (e' := [some (.d ((eL (eL PyData.int)) xs5)), none]) rfl ?_
    refine c_end1 ?_
    exact sim_ret ⟨.inl rfl, rfl⟩
  intro s1 e hK
  have he := hK
  subst he
  refine c_blk1 ?_
  refine c_ret ?_
  refine c_name rfl ?_
  refine rt_d ?_
  exact sim_ret ⟨.inl rfl, rfl⟩
def S_law_scale (deck_ : List Int) : M ((List (List Int)) × (List Int)) :=
  S_law_draw deck_ (4 : Int) >>= fun r1 =>
  if (decide (r1.1 < (2 : Int))) = true then (S_law_draw r1.2 (4 : Int) >>= fun r2 =>
  range1M ((1 : Int) + r2.1) >>= fun rng3 =>
  compS (fun (a4 : Int) (s5 : (List Int)) => S_law_draw s5 (6 : Int) >>= fun r6 =>
  .ok (some ((1 : Int) + r6.1), r6.2)) rng3 r2.2 >>= fun p7 =>
  .ok ([p7.1], p7.2))
  else
  if (eqD r1.1 (2 : Int)) = true then (S_law_draw r1.2 (2 : Int) >>= fun r8 =>
  compP (fun (a9 : Int) => range1M ((2 : Int) * ((2 : Int) + r8.1)) >>= fun rng10 =>
  compP (fun (a11 : Int) => divM a11 ((2 : Int) + r8.1) >>= fun quo12 =>
  .ok (some (b2i (eqD quo12 a9)))) rng10 >>= fun xs13 =>
  .ok (some xs13)) (rangeZ 0 ((2 : Int)).toNat) >>= fun xs14 =>
  range1M ((2 : Int) + r8.1) >>= fun rng15 =>
  compP (fun (a16 : Int) => range1M ((2 : Int) * ((2 : Int) + r8.1)) >>= fun rng17 =>
  compP (fun (a18 : Int) => modM a18 ((2 : Int) + r8.1) >>= fun rem19 =>
  .ok (some (b2i (eqD rem19 a16)))) rng17 >>= fun xs20 =>
  .ok (some xs20)) rng15 >>= fun xs21 =>
  lenG (xs14 ++ xs21) >>= fun cat22 =>
  .ok (cat22, r8.2))
  else
  S_law_draw r1.2 (5 : Int) >>= fun r23 =>
  S_law_draw r23.2 (5 : Int) >>= fun r24 =>
  range1M (((2 : Int) + r23.1), ((2 : Int) + r24.1)).2 >>= fun rng25 =>
  compS (fun a s => (fun (a26 : Int) (s27 : List Int) => range1M (((2 : Int) + r23.1), ((2 : Int) + r24.1)).1 >>= fun rng28 =>
  compS (fun (a29 : Int) (s30 : (List Int)) => S_law_draw s30 (2 : Int) >>= fun r31 =>
  .ok (some r31.1, r31.2)) rng28 s27 >>= fun p32 =>
  .ok (p32.1, p32.2)) a s >>= fun p => .ok (some p.1, p.2)) rng25 r24.2 >>= fun p33 =>
  range1M (((2 : Int) + r23.1), ((2 : Int) + r24.1)).1 >>= fun rng34 =>
  lendM (forM' (fixM (fun (k35 : Int) (s36 : List Int) (w37 : List (List Int)) => compP (fun (a40 : List Int) => ixM a40 k35 >>= fun it41 =>
  .ok (some it41)) w37 >>= fun xs42 =>
  .ok (eqD (xs42.sum) (0 : Int))) (fun (k35 : Int) (s36 : List Int) (w37 : List (List Int)) => S_law_draw s36 ((((2 : Int) + r23.1), ((2 : Int) + r24.1)).2) >>= fun r43 =>
  .ok (r43.1, r43.2))) rng34 (p33.2, p33.1)) >>= fun q44 =>
  S_law_cut q44.2 >>= fun r45 =>
  lenG (List.map (fun (a46 : List Int) => a46) r45) >>= fun xs47 =>
  .ok (xs47, q44.1)
theorem L_law_scale (deck_ : List Int) : FSim (F_law_scale [.bor (.lst (List.map PyData.int deck_))]) (S_law_scale deck_) (fun (r : (List (List Int)) × (List Int)) => Ret.d ((eT (eT PyData.int)) r.1)) (fun (r : (List (List Int)) × (List Int)) => [.bor (.lst (List.map PyData.int r.2))]) := by
  refine fs_mk ?_
  unfold S_law_scale
  refine sim_bnd0 ?_
  have e0 : envOf 10 [.bor (.lst (List.map PyData.int deck_))] = [some (.cell .bor (.lst (List.map PyData.int deck_))), none, none, none, none, none, none, none, none, none] := rfl
  rw [e0]
  unfold f_law_scale
  refine c_blk ?_
  refine c_frz ?_
  refine c_set ?_
  refine c_callF ?_
  refine c_aref rfl ?_
  refine c_adat ?_
  refine c_take ?_
  refine c_const ?_
  refine t_pure rfl ?_
  refine c_anil ?_
  refine cf_s (e2 := fun r1 => [some (.cell .bor (.lst (List.map PyData.int r1.2))), none, none, none, none, none, none, none, none, none]) (L_law_draw deck_ (4 : Int)) (show List.Nodup ([0] : List Nat) by decide) rfl rfl (fun _ => rfl) (fun _ => trivial) ?_
  intro r1
  refine as_d (e' := [some (.cell .bor (.lst (List.map PyData.int r1.2))), some (.d (PyData.int r1.1)), none, none, none, none, none, none, none, none]) rfl okO_none rfl ?_
  refine fz_t (v := PyData.int r1.1) (e' := [some (.cell .bor (.lst (List.map PyData.int r1.2))), some (.d (PyData.int r1.1)), none, none, none, none, none, none, none, none]) rfl ?_
  refine c_blk1 ?_
  refine c_ifS ?_
  refine c_tru ?_
  refine c_bin ?_
  refine c_name rfl ?_
  refine c_const ?_
  refine b_pure rfl rfl rfl ?_
  refine tr_pure rfl rfl ?_
  refine ite_b (fun _ => ?_) (fun _ => ?_)
  · refine c_blk ?_
    refine c_ret ?_
    refine c_tup ?_
    refine c_cons ?_
    refine c_take ?_
    refine c_call ?_
    refine c_pcons ?_
    refine c_comp ?_
    refine c_rng1 ?_
    refine c_pcons ?_
    refine c_bin ?_
    refine c_const ?_
    refine c_callF ?_
    refine c_aref rfl ?_
    refine c_adat ?_
    refine c_take ?_
    refine c_const ?_
    refine t_pure rfl ?_
    refine c_anil ?_
    refine cf_s (e2 := fun r2 => [some (.cell .bor (.lst (List.map PyData.int r2.2))), some (.d (PyData.int r1.1)), none, none, none, none, none, none, none, none]) (L_law_draw r1.2 (4 : Int)) (show List.Nodup ([0] : List Nat) by decide) rfl rfl (fun _ => rfl) (fun _ => trivial) ?_
    intro r2
    refine b_pure rfl rfl rfl ?_
    refine c_pnil ?_
    refine r1_part rfl ?_
    intro rng3
    refine co_s (enc' := PyData.int) (fun (s5 : (List Int)) (e : SE) => e = [some (.cell .bor (.lst (List.map PyData.int s5))), some (.d (PyData.int r1.1)), none, none, none, none, none, none, none, none]) rfl (fun s5 e h => by subst h; exact (nc_cons rfl datO_none nc_nil)) ?_ ?_
    · intro a4 s5 e h
      subst h
      refine ⟨[some (.cell .bor (.lst (List.map PyData.int s5))), some (.d (PyData.int r1.1)), none, none, none, none, some (.d (PyData.int a4)), none, none, none], (bn (e' := [some (.cell .bor (.lst (List.map PyData.int s5))), some (.d (PyData.int r1.1)), none, none, none, none, some (.d (PyData.int a4)), none, none, none]) rfl okO_none rfl), ?_⟩
      refine c_turnY ?_
      refine c_take ?_
      refine c_bin ?_
      refine c_const ?_
      refine c_callF ?_
      refine c_aref rfl ?_
      refine c_adat ?_
      refine c_take ?_
      refine c_const ?_
      refine t_pure rfl ?_
      refine c_anil ?_
      refine cf_s (e2 := fun r6 => [some (.cell .bor (.lst (List.map PyData.int r6.2))), some (.d (PyData.int r1.1)), none, none, none, none, some (.d (PyData.int a4)), none, none, none]) (L_law_draw s5 (6 : Int)) (show List.Nodup ([0] : List Nat) by decide) rfl rfl (fun _ => rfl) (fun _ => trivial) ?_
      intro r6
      refine b_pure rfl rfl rfl ?_
      refine t_pure rfl ?_
      exact sim_ret ⟨rfl, rfl⟩
    intro ys1 ys2 e h e' he
    obtain rfl : e' = [some (.cell .bor (.lst (List.map PyData.int ys2))), some (.d (PyData.int r1.1)), none, none, none, none, none, none, none, none] := by rw [← he, h]; rfl
    generalize hp : (ys1, ys2) = p7
    obtain rfl : ys1 = p7.1 := by rw [← hp]
    obtain rfl : ys2 = p7.2 := by rw [← hp]
    clear hp
    refine c_pnil ?_
    refine cb_pure (r := .d (eT PyData.int p7.1)) rfl rfl ?_
    refine t_pure rfl ?_
    refine c_nil ?_
    refine tu_pure (v := (eT (eT PyData.int)) [p7.1]) rfl rfl ?_
    refine rt_d ?_
    exact sim_ret ⟨.inl rfl, rfl⟩
  refine c_end ?_
  refine c_blk1 ?_
  refine c_ifS ?_
  refine c_tru ?_
  refine c_bin ?_
  refine c_name rfl ?_
  refine c_const ?_
  refine b_pure (u := PyData.int r1.1) (v := PyData.int (2 : Int)) rfl rfl (eq_t EqT.I (by decide)) ?_
  refine tr_pure rfl rfl ?_
  refine ite_b (fun _ => ?_) (fun _ => ?_)
  · refine c_blk ?_
    refine c_set ?_
    refine c_bin ?_
    refine c_const ?_
    refine c_callF ?_
    refine c_aref rfl ?_
    refine c_adat ?_
    refine c_take ?_
    refine c_const ?_
    refine t_pure rfl ?_
    refine c_anil ?_
    refine cf_s (e2 := fun r8 => [some (.cell .bor (.lst (List.map PyData.int r8.2))), some (.d (PyData.int r1.1)), none, none, none, none, none, none, none, none]) (L_law_draw r1.2 (2 : Int)) (show List.Nodup ([0] : List Nat) by decide) rfl rfl (fun _ => rfl) (fun _ => trivial) ?_
    intro r8
    refine b_pure rfl rfl rfl ?_
    refine as_d (e' := [some (.cell .bor (.lst (List.map PyData.int r8.2))), some (.d (PyData.int r1.1)), some (.d (PyData.int ((2 : Int) + r8.1))), none, none, none, none, none, none, none]) rfl okO_none rfl ?_
    refine c_blk1 ?_
    refine c_frz ?_
    refine c_set ?_
    refine c_comp ?_
    refine c_rng1 ?_
    refine c_pcons ?_
    refine c_const ?_
    refine c_pnil ?_
    refine r1_lit rfl (by decide) ?_
    refine co_p (enc' := (eT PyData.int)) (el := [some (.cell .bor (.lst (List.map PyData.int r8.2))), some (.d (PyData.int r1.1)), some (.d (PyData.int ((2 : Int) + r8.1))), none, none, none, none, none, none, none]) rfl (nc_cons rfl datO_none nc_nil) rfl ?_ ?_
    · intro a9
      refine ⟨[some (.cell .bor (.lst (List.map PyData.int r8.2))), some (.d (PyData.int r1.1)), some (.d (PyData.int ((2 : Int) + r8.1))), none, none, none, none, some (.d (PyData.int a9)), none, none], (bn (e' := [some (.cell .bor (.lst (List.map PyData.int r8.2))), some (.d (PyData.int r1.1)), some (.d (PyData.int ((2 : Int) + r8.1))), none, none, none, none, some (.d (PyData.int a9)), none, none]) rfl okO_none rfl), ?_⟩
      refine c_turnY ?_
      refine c_take ?_
      refine c_call ?_
      refine c_pcons ?_
      refine c_comp ?_
      refine c_rng1 ?_
      refine c_pcons ?_
      refine c_bin ?_
      refine c_const ?_
      refine c_name rfl ?_
      refine b_pure rfl rfl (mul_litL (by decide)) ?_
      refine c_pnil ?_
      refine r1_part rfl ?_
      intro rng10
      refine co_p (enc' := PyData.int) (el := [some (.cell .bor (.lst (List.map PyData.int r8.2))), some (.d (PyData.int r1.1)), some (.d (PyData.int ((2 : Int) + r8.1))), none, none, none, none, some (.d (PyData.int a9)), none, none]) rfl (nc_cons rfl datO_none nc_nil) rfl ?_ ?_
      · intro a11
        refine ⟨[some (.cell .bor (.lst (List.map PyData.int r8.2))), some (.d (PyData.int r1.1)), some (.d (PyData.int ((2 : Int) + r8.1))), none, none, none, none, some (.d (PyData.int a9)), some (.d (PyData.int a11)), none], (bn (e' := [some (.cell .bor (.lst (List.map PyData.int r8.2))), some (.d (PyData.int r1.1)), some (.d (PyData.int ((2 : Int) + r8.1))), none, none, none, none, some (.d (PyData.int a9)), some (.d (PyData.int a11)), none]) rfl okO_none rfl), ?_⟩
        refine c_turnY ?_
        refine c_take ?_
        refine c_call ?_
        refine c_pcons ?_
        refine c_bin ?_
        refine c_bin ?_
        refine c_name rfl ?_
        refine c_name rfl ?_
        refine b_part rfl rfl divS ?_
        intro quo12
        refine c_name rfl ?_
        refine b_pure (u := PyData.int quo12) (v := PyData.int a9) rfl rfl (eq_t EqT.I (by decide)) ?_
        refine c_pnil ?_
        refine cb_pure (r := .d (.int (b2i (eqD quo12 a9)))) rfl rfl ?_
        refine t_pure rfl ?_
        exact sim_ret ⟨rfl, rfl⟩
      intro xs13
      refine c_pnil ?_
      refine cb_pure (r := .d (eT PyData.int xs13)) rfl rfl ?_
      refine t_pure rfl ?_
      exact sim_ret ⟨rfl, rfl⟩
    intro xs14
    refine as_t (e' := [some (.cell .bor (.lst (List.map PyData.int r8.2))), some (.d (PyData.int r1.1)), some (.d (PyData.int ((2 : Int) + r8.1))), some (.cell .own (.lst (List.map (eT PyData.int) xs14))), none, none, none, none, none, none]) rfl okO_none rfl ?_
    refine fz_t (v := (eL (eT PyData.int)) xs14) (e' := [some (.cell .bor (.lst (List.map PyData.int r8.2))), some (.d (PyData.int r1.1)), some (.d (PyData.int ((2 : Int) + r8.1))), some (.d ((eL (eT PyData.int)) xs14)), none, none, none, none, none, none]) rfl ?_
    refine c_blk1 ?_
    refine c_ret ?_
    refine c_call ?_
    refine c_pcons ?_
    refine c_bin ?_
    refine c_name rfl ?_
    refine c_comp ?_
    refine c_rng1 ?_
    refine c_pcons ?_
    refine c_name rfl ?_
    refine c_pnil ?_
    refine r1_part rfl ?_
    intro rng15
    refine co_p (enc' := (eT PyData.int)) (el := [some (.cell .bor (.lst (List.map PyData.int r8.2))), some (.d (PyData.int r1.1)), some (.d (PyData.int ((2 : Int) + r8.1))), some (.d ((eL (eT PyData.int)) xs14)), none, none, none, none, none, none]) rfl (nc_cons rfl datO_none nc_nil) rfl ?_ ?_
    · intro a16
      refine ⟨[some (.cell .bor (.lst (List.map PyData.int r8.2))), some (.d (PyData.int r1.1)), some (.d (PyData.int ((2 : Int) + r8.1))), some (.d ((eL (eT PyData.int)) xs14)), none, none, none, none, none, some (.d (PyData.int a16))], (bn (e' := [some (.cell .bor (.lst (List.map PyData.int r8.2))), some (.d (PyData.int r1.1)), some (.d (PyData.int ((2 : Int) + r8.1))), some (.d ((eL (eT PyData.int)) xs14)), none, none, none, none, none, some (.d (PyData.int a16))]) rfl okO_none rfl), ?_⟩
      refine c_turnY ?_
      refine c_take ?_
      refine c_call ?_
      refine c_pcons ?_
      refine c_comp ?_
      refine c_rng1 ?_
      refine c_pcons ?_
      refine c_bin ?_
      refine c_const ?_
      refine c_name rfl ?_
      refine b_pure rfl rfl (mul_litL (by decide)) ?_
      refine c_pnil ?_
      refine r1_part rfl ?_
      intro rng17
      refine co_p (enc' := PyData.int) (el := [some (.cell .bor (.lst (List.map PyData.int r8.2))), some (.d (PyData.int r1.1)), some (.d (PyData.int ((2 : Int) + r8.1))), some (.d ((eL (eT PyData.int)) xs14)), none, none, none, none, none, some (.d (PyData.int a16))]) rfl (nc_cons rfl datO_none nc_nil) rfl ?_ ?_
      · intro a18
        refine ⟨[some (.cell .bor (.lst (List.map PyData.int r8.2))), some (.d (PyData.int r1.1)), some (.d (PyData.int ((2 : Int) + r8.1))), some (.d ((eL (eT PyData.int)) xs14)), none, none, none, none, some (.d (PyData.int a18)), some (.d (PyData.int a16))], (bn (e' := [some (.cell .bor (.lst (List.map PyData.int r8.2))), some (.d (PyData.int r1.1)), some (.d (PyData.int ((2 : Int) + r8.1))), some (.d ((eL (eT PyData.int)) xs14)), none, none, none, none, some (.d (PyData.int a18)), some (.d (PyData.int a16))]) rfl okO_none rfl), ?_⟩
        refine c_turnY ?_
        refine c_take ?_
        refine c_call ?_
        refine c_pcons ?_
        refine c_bin ?_
        refine c_bin ?_
        refine c_name rfl ?_
        refine c_name rfl ?_
        refine b_part rfl rfl modS ?_
        intro rem19
        refine c_name rfl ?_
        refine b_pure (u := PyData.int rem19) (v := PyData.int a16) rfl rfl (eq_t EqT.I (by decide)) ?_
        refine c_pnil ?_
        refine cb_pure (r := .d (.int (b2i (eqD rem19 a16)))) rfl rfl ?_
        refine t_pure rfl ?_
        exact sim_ret ⟨rfl, rfl⟩
      intro xs20
      refine c_pnil ?_
      refine cb_pure (r := .d (eT PyData.int xs20)) rfl rfl ?_
      refine t_pure rfl ?_
      exact sim_ret ⟨rfl, rfl⟩
    intro xs21
    refine b_part (u := (eL (eT PyData.int)) xs14) (v := (eL (eT PyData.int)) xs21) rfl rfl (catL (e := (eT PyData.int))) ?_
    intro cat22
    refine c_pnil ?_
    refine cb_pure (r := .d (eT (eT PyData.int) cat22)) rfl rfl ?_
    refine rt_d ?_
    exact sim_ret ⟨.inl rfl, rfl⟩
  refine c_end ?_
  refine c_blk1 ?_
  refine c_bindS ?_
  refine c_take ?_
  refine c_tup ?_
  refine c_cons ?_
  refine c_take ?_
  refine c_bin ?_
  refine c_const ?_
  refine c_callF ?_
  refine c_aref rfl ?_
  refine c_adat ?_
  refine c_take ?_
  refine c_const ?_
  refine t_pure rfl ?_
  refine c_anil ?_
  refine cf_s (e2 := fun r23 => [some (.cell .bor (.lst (List.map PyData.int r23.2))), some (.d (PyData.int r1.1)), none, none, none, none, none, none, none, none]) (L_law_draw r1.2 (5 : Int)) (show List.Nodup ([0] : List Nat) by decide) rfl rfl (fun _ => rfl) (fun _ => trivial) ?_
  intro r23
  refine b_pure rfl rfl rfl ?_
  refine t_pure rfl ?_
  refine c_cons ?_
  refine c_take ?_
  refine c_bin ?_
  refine c_const ?_
  refine c_callF ?_
  refine c_aref rfl ?_
  refine c_adat ?_
  refine c_take ?_
  refine c_const ?_
  refine t_pure rfl ?_
  refine c_anil ?_
  refine cf_s (e2 := fun r24 => [some (.cell .bor (.lst (List.map PyData.int r24.2))), some (.d (PyData.int r1.1)), none, none, none, none, none, none, none, none]) (L_law_draw r23.2 (5 : Int)) (show List.Nodup ([0] : List Nat) by decide) rfl rfl (fun _ => rfl) (fun _ => trivial) ?_
  intro r24
  refine b_pure rfl rfl rfl ?_
  refine t_pure rfl ?_
  refine c_nil ?_
  refine tu_pure (v := (eP PyData.int PyData.int) (((2 : Int) + r23.1), ((2 : Int) + r24.1))) rfl rfl ?_
  refine t_pure rfl ?_
  refine bi_t (bt_tup rfl (bt_cons (bn (e' := [some (.cell .bor (.lst (List.map PyData.int r24.2))), some (.d (PyData.int r1.1)), none, none, some (.d (PyData.int ((((2 : Int) + r23.1), ((2 : Int) + r24.1)).1))), none, none, none, none, none]) rfl okO_none rfl) (bt_cons (bn (e' := [some (.cell .bor (.lst (List.map PyData.int r24.2))), some (.d (PyData.int r1.1)), none, none, some (.d (PyData.int ((((2 : Int) + r23.1), ((2 : Int) + r24.1)).1))), some (.d (PyData.int ((((2 : Int) + r23.1), ((2 : Int) + r24.1)).2))), none, none, none, none]) rfl okO_none rfl) bt_nil))) ?_
  refine c_rows ?_
  refine c_tab ?_
  refine c_rng1 ?_
  refine c_pcons ?_
  refine c_name rfl ?_
  refine c_pnil ?_
  refine r1_part rfl ?_
  intro rng25
  refine tab_s (f := (fun (a26 : Int) (s27 : List Int) => range1M (((2 : Int) + r23.1), ((2 : Int) + r24.1)).1 >>= fun rng28 =>
    compS (fun (a29 : Int) (s30 : (List Int)) => S_law_draw s30 (2 : Int) >>= fun r31 =>
    .ok (some r31.1, r31.2)) rng28 s27 >>= fun p32 =>
    .ok (p32.1, p32.2))) (fun (s27 : List Int) (e : SE) => e = [some (.cell .bor (.lst (List.map PyData.int s27))), some (.d (PyData.int r1.1)), none, none, some (.d (PyData.int ((((2 : Int) + r23.1), ((2 : Int) + r24.1)).1))), some (.d (PyData.int ((((2 : Int) + r23.1), ((2 : Int) + r24.1)).2))), none, none, none, none]) rfl (fun s27 e h => by subst h; exact (nc_cons rfl datO_none nc_nil)) ?_ ?_
  · intro a26 s27 e h
    subst h
    refine ⟨[some (.cell .bor (.lst (List.map PyData.int s27))), some (.d (PyData.int r1.1)), none, none, some (.d (PyData.int ((((2 : Int) + r23.1), ((2 : Int) + r24.1)).1))), some (.d (PyData.int ((((2 : Int) + r23.1), ((2 : Int) + r24.1)).2))), none, some (.d (PyData.int a26)), none, none], (bn (e' := [some (.cell .bor (.lst (List.map PyData.int s27))), some (.d (PyData.int r1.1)), none, none, some (.d (PyData.int ((((2 : Int) + r23.1), ((2 : Int) + r24.1)).1))), some (.d (PyData.int ((((2 : Int) + r23.1), ((2 : Int) + r24.1)).2))), none, some (.d (PyData.int a26)), none, none]) rfl okO_none rfl), ?_⟩
    refine sim_bnd0 ?_
    refine c_comp ?_
    refine c_rng1 ?_
    refine c_pcons ?_
    refine c_name rfl ?_
    refine c_pnil ?_
    refine r1_part rfl ?_
    intro rng28
    refine co_s (enc' := PyData.int) (fun (s30 : (List Int)) (e : SE) => e = [some (.cell .bor (.lst (List.map PyData.int s30))), some (.d (PyData.int r1.1)), none, none, some (.d (PyData.int ((((2 : Int) + r23.1), ((2 : Int) + r24.1)).1))), some (.d (PyData.int ((((2 : Int) + r23.1), ((2 : Int) + r24.1)).2))), none, some (.d (PyData.int a26)), none, none]) rfl (fun s30 e h => by subst h; exact (nc_cons rfl datO_none nc_nil)) ?_ ?_
    · intro a29 s30 e h
      subst h
      refine ⟨[some (.cell .bor (.lst (List.map PyData.int s30))), some (.d (PyData.int r1.1)), none, none, some (.d (PyData.int ((((2 : Int) + r23.1), ((2 : Int) + r24.1)).1))), some (.d (PyData.int ((((2 : Int) + r23.1), ((2 : Int) + r24.1)).2))), some (.d (PyData.int a29)), some (.d (PyData.int a26)), none, none], (bn (e' := [some (.cell .bor (.lst (List.map PyData.int s30))), some (.d (PyData.int r1.1)), none, none, some (.d (PyData.int ((((2 : Int) + r23.1), ((2 : Int) + r24.1)).1))), some (.d (PyData.int ((((2 : Int) + r23.1), ((2 : Int) + r24.1)).2))), some (.d (PyData.int a29)), some (.d (PyData.int a26)), none, none]) rfl okO_none rfl), ?_⟩
      refine c_turnY ?_
      refine c_take ?_
      refine c_callF ?_
      refine c_aref rfl ?_
      refine c_adat ?_
      refine c_take ?_
      refine c_const ?_
      refine t_pure rfl ?_
      refine c_anil ?_
      refine cf_s (e2 := fun r31 => [some (.cell .bor (.lst (List.map PyData.int r31.2))), some (.d (PyData.int r1.1)), none, none, some (.d (PyData.int ((((2 : Int) + r23.1), ((2 : Int) + r24.1)).1))), some (.d (PyData.int ((((2 : Int) + r23.1), ((2 : Int) + r24.1)).2))), some (.d (PyData.int a29)), some (.d (PyData.int a26)), none, none]) (L_law_draw s30 (2 : Int)) (show List.Nodup ([0] : List Nat) by decide) rfl rfl (fun _ => rfl) (fun _ => trivial) ?_
      intro r31
      refine t_pure rfl ?_
      exact sim_ret ⟨rfl, rfl⟩
    intro ys1 ys2 e h e' he
    obtain rfl : e' = [some (.cell .bor (.lst (List.map PyData.int ys2))), some (.d (PyData.int r1.1)), none, none, some (.d (PyData.int ((((2 : Int) + r23.1), ((2 : Int) + r24.1)).1))), some (.d (PyData.int ((((2 : Int) + r23.1), ((2 : Int) + r24.1)).2))), none, some (.d (PyData.int a26)), none, none] := by rw [← he, h]; rfl
    generalize hp : (ys1, ys2) = p32
    obtain rfl : ys1 = p32.1 := by rw [← hp]
    obtain rfl : ys2 = p32.2 := by rw [← hp]
    clear hp
    exact sim_ret ⟨rfl, rfl⟩
  intro p33 e h
  obtain rfl : e = [some (.cell .bor (.lst (List.map PyData.int p33.2))), some (.d (PyData.int r1.1)), none, none, some (.d (PyData.int ((((2 : Int) + r23.1), ((2 : Int) + r24.1)).1))), some (.d (PyData.int ((((2 : Int) + r23.1), ((2 : Int) + r24.1)).2))), none, none, none, none] := h
  refine c_rowsR (e1 := [some (.cell .bor (.lst (List.map PyData.int p33.2))), some (.d (PyData.int r1.1)), none, some (.d ((eL (eL PyData.int)) p33.1)), some (.d (PyData.int ((((2 : Int) + r23.1), ((2 : Int) + r24.1)).1))), some (.d (PyData.int ((((2 : Int) + r23.1), ((2 : Int) + r24.1)).2))), none, none, none, none]) (n := (((2 : Int) + r23.1), ((2 : Int) + r24.1)).1) (setS_ok rfl okO_none rfl) rfl rfl ?_
  intro rng34
  refine fix_s (ft := (fun (k35 : Int) (s36 : List Int) (w37 : List (List Int)) => compP (fun (a40 : List Int) => ixM a40 k35 >>= fun it41 =>
    .ok (some it41)) w37 >>= fun xs42 =>
    .ok (eqD (xs42.sum) (0 : Int)))) (fc := (fun (k35 : Int) (s36 : List Int) (w37 : List (List Int)) => S_law_draw s36 ((((2 : Int) + r23.1), ((2 : Int) + r24.1)).2) >>= fun r43 =>
    .ok (r43.1, r43.2))) (fun s36 w37 e => ∃ (o38 o39 : Option MV), datO o38 ∧ datO o39 ∧ e = [some (.cell .bor (.lst (List.map PyData.int s36))), some (.d (PyData.int r1.1)), none, some (.d ((eL (eL PyData.int)) w37)), some (.d (PyData.int ((((2 : Int) + r23.1), ((2 : Int) + r24.1)).1))), some (.d (PyData.int ((((2 : Int) + r23.1), ((2 : Int) + r24.1)).2))), o39, o38, none, none]) (fun k35 s36 w37 e => ∃ (o38 : Option MV), datO o38 ∧ e = [some (.cell .bor (.lst (List.map PyData.int s36))), some (.d (PyData.int r1.1)), none, some (.d ((eL (eL PyData.int)) w37)), some (.d (PyData.int ((((2 : Int) + r23.1), ((2 : Int) + r24.1)).1))), some (.d (PyData.int ((((2 : Int) + r23.1), ((2 : Int) + r24.1)).2))), some (.d (PyData.int k35)), o38, none, none]) ⟨_, _, datO_none, datO_none, rfl⟩ ?_ ?_ ?_ ?_
  · rintro k35 s36 w37 e ⟨o38, o39, ho38, ho39, rfl⟩
    refine ⟨[some (.cell .bor (.lst (List.map PyData.int s36))), some (.d (PyData.int r1.1)), none, some (.d ((eL (eL PyData.int)) w37)), some (.d (PyData.int ((((2 : Int) + r23.1), ((2 : Int) + r24.1)).1))), some (.d (PyData.int ((((2 : Int) + r23.1), ((2 : Int) + r24.1)).2))), some (.d (PyData.int k35)), o38, none, none], bn rfl ho39.ok rfl, ?_⟩
    refine sim_bnd0 ?_
    refine c_tru ?_
    refine c_bin ?_
    refine c_call ?_
    refine c_pcons ?_
    refine c_comp ?_
    refine c_seq ?_
    refine c_name rfl ?_
    refine sq_L (ds := List.map (eL PyData.int) w37) (lk := []) rfl rfl ?_
    refine co_p (enc' := PyData.int) (el := [some (.cell .bor (.lst (List.map PyData.int s36))), some (.d (PyData.int r1.1)), none, some (.d ((eL (eL PyData.int)) w37)), some (.d (PyData.int ((((2 : Int) + r23.1), ((2 : Int) + r24.1)).1))), some (.d (PyData.int ((((2 : Int) + r23.1), ((2 : Int) + r24.1)).2))), some (.d (PyData.int k35)), o38, none, none]) rfl (nc_cons rfl ho38 nc_nil) rfl ?_ ?_
    · intro a40
      refine ⟨[some (.cell .bor (.lst (List.map PyData.int s36))), some (.d (PyData.int r1.1)), none, some (.d ((eL (eL PyData.int)) w37)), some (.d (PyData.int ((((2 : Int) + r23.1), ((2 : Int) + r24.1)).1))), some (.d (PyData.int ((((2 : Int) + r23.1), ((2 : Int) + r24.1)).2))), some (.d (PyData.int k35)), some (.d ((eL PyData.int) a40)), none, none], (bn (e' := [some (.cell .bor (.lst (List.map PyData.int s36))), some (.d (PyData.int r1.1)), none, some (.d ((eL (eL PyData.int)) w37)), some (.d (PyData.int ((((2 : Int) + r23.1), ((2 : Int) + r24.1)).1))), some (.d (PyData.int ((((2 : Int) + r23.1), ((2 : Int) + r24.1)).2))), some (.d (PyData.int k35)), some (.d ((eL PyData.int) a40)), none, none]) rfl okO_none rfl), ?_⟩
      refine c_turnY ?_
      refine c_take ?_
      refine c_bin ?_
      refine c_name rfl ?_
      refine c_name rfl ?_
      refine b_part (u := (eL PyData.int) a40) rfl rfl (ixS (e := PyData.int) (xs := a40) rfl) ?_
      intro it41
      refine t_pure rfl ?_
      exact sim_ret ⟨rfl, rfl⟩
    intro xs42
    refine c_pnil ?_
    refine cb_pure (xs := [eL PyData.int xs42]) rfl sumL ?_
    refine c_const ?_
    refine b_pure (u := PyData.int (xs42.sum)) (v := PyData.int (0 : Int)) rfl rfl (eq_t EqT.I (by decide)) ?_
    refine tr_pure rfl rfl ?_
    exact sim_ret ⟨rfl, _, ho38, rfl⟩
  · rintro k35 s36 w37 e ⟨o38, ho38, rfl⟩
    exact ⟨_, _, ho38, datO_d, rfl⟩
  · rintro k35 s36 w37 e ⟨o38, ho38, rfl⟩
    refine sim_bnd0 ?_
    refine c_callF ?_
    refine c_aref rfl ?_
    refine c_adat ?_
    refine c_take ?_
    refine c_name rfl ?_
    refine t_pure rfl ?_
    refine c_anil ?_
    refine cf_s (e2 := fun r43 => [some (.cell .bor (.lst (List.map PyData.int r43.2))), some (.d (PyData.int r1.1)), none, some (.d ((eL (eL PyData.int)) w37)), some (.d (PyData.int ((((2 : Int) + r23.1), ((2 : Int) + r24.1)).1))), some (.d (PyData.int ((((2 : Int) + r23.1), ((2 : Int) + r24.1)).2))), some (.d (PyData.int k35)), o38, none, none]) (L_law_draw s36 ((((2 : Int) + r23.1), ((2 : Int) + r24.1)).2)) (show List.Nodup ([0] : List Nat) by decide) rfl rfl (fun _ => rfl) (fun _ => trivial) ?_
    intro r43
    exact sim_ret ⟨rfl, rfl, and_t (fl_c (fl_i (fl_none (fl_none (fl_i (fl_i (fl_i (fl_none (fl_none (fl_none fl_nil)))))))))) (nc_cons rfl ho38 (nc_cons rfl datO_d nc_nil)), Nat.le_of_ble_eq_true rfl, Nat.le_of_ble_eq_true rfl, fun w => ⟨_, _, datO_none, datO_d, rfl⟩⟩
  rintro q44 e ⟨o38, o39, ho38, ho39, rfl⟩
  refine c_blk ?_
  refine c_ret ?_
  refine c_call ?_
  refine c_pcons ?_
  refine c_comp ?_
  refine c_seq ?_
  refine c_callF ?_
  refine c_adat ?_
  refine c_take ?_
  refine c_name rfl ?_
  refine t_pure rfl ?_
  refine c_anil ?_
  refine cf_s (e2 := fun r45 => [some (.cell .bor (.lst (List.map PyData.int q44.1))), some (.d (PyData.int r1.1)), none, some (.d ((eL (eL PyData.int)) q44.2)), some (.d (PyData.int ((((2 : Int) + r23.1), ((2 : Int) + r24.1)).1))), some (.d (PyData.int ((((2 : Int) + r23.1), ((2 : Int) + r24.1)).2))), o39, o38, none, none]) (L_law_cut q44.2) (show List.Nodup ([] : List Nat) by decide) rfl rfl (fun _ => rfl) (fun _ => trivial) ?_
  intro r45
  refine sq_L (ds := List.map (eL PyData.int) r45) (lk := []) rfl rfl ?_
  refine co_m (enc' := (eT PyData.int)) (el := [some (.cell .bor (.lst (List.map PyData.int q44.1))), some (.d (PyData.int r1.1)), none, some (.d ((eL (eL PyData.int)) q44.2)), some (.d (PyData.int ((((2 : Int) + r23.1), ((2 : Int) + r24.1)).1))), some (.d (PyData.int ((((2 : Int) + r23.1), ((2 : Int) + r24.1)).2))), o39, o38, none, none]) rfl (nc_cons rfl ho38 nc_nil) rfl ?_ ?_
  · intro a46
    refine ⟨[some (.cell .bor (.lst (List.map PyData.int q44.1))), some (.d (PyData.int r1.1)), none, some (.d ((eL (eL PyData.int)) q44.2)), some (.d (PyData.int ((((2 : Int) + r23.1), ((2 : Int) + r24.1)).1))), some (.d (PyData.int ((((2 : Int) + r23.1), ((2 : Int) + r24.1)).2))), o39, some (.d ((eL PyData.int) a46)), none, none], (bn (e' := [some (.cell .bor (.lst (List.map PyData.int q44.1))), some (.d (PyData.int r1.1)), none, some (.d ((eL (eL PyData.int)) q44.2)), some (.d (PyData.int ((((2 : Int) + r23.1), ((2 : Int) + r24.1)).1))), some (.d (PyData.int ((((2 : Int) + r23.1), ((2 : Int) + r24.1)).2))), o39, some (.d ((eL PyData.int) a46)), none, none]) rfl okO_none rfl), ?_⟩
    refine c_turnY ?_
    refine c_take ?_
    refine c_call ?_
    refine c_pcons ?_
    refine c_name rfl ?_
    refine c_pnil ?_
    refine cb_pure (r := .d (eT PyData.int a46)) rfl rfl ?_
    refine t_pure rfl ?_
    exact sim_ret ⟨rfl, rfl⟩
  intro xs47
  refine c_pnil ?_
  refine cb_pure (r := .d (eT (eT PyData.int) xs47)) rfl rfl ?_
  refine rt_d ?_
  exact sim_ret ⟨.inl rfl, rfl⟩
def S_law_sums (scale_ : List (List Int)) (heap_ : List Int) : M ((List Int)) :=
  compP (fun (a1 : List Int) => compP (fun (a2 : Int × Int) => mulM a2.1 a2.2 >>= fun mul3 =>
  .ok (some mul3)) (List.zip a1 heap_) >>= fun xs4 =>
  .ok (some (xs4.sum))) scale_ >>= fun xs5 =>
  .ok xs5
theorem L_law_sums (scale_ : List (List Int)) (heap_ : List Int) : FSim (F_law_sums [.d ((eT (eT PyData.int)) scale_), .d ((eL PyData.int) heap_)]) (S_law_sums scale_ heap_) (fun (r : (List Int)) => Ret.d ((eT PyData.int) r)) (fun (r : (List Int)) => [.d ((eT (eT PyData.int)) scale_), .d ((eL PyData.int) heap_)]) := by
  refine fs_mk ?_
  unfold S_law_sums
  refine sim_bnd0 ?_
  have e0 : envOf 5 [.d ((eT (eT PyData.int)) scale_), .d ((eL PyData.int) heap_)] = [some (.d ((eT (eT PyData.int)) scale_)), some (.d ((eL PyData.int) heap_)), none, none, none] := rfl
  rw [e0]
  unfold f_law_sums
  refine c_blk ?_
  refine c_ret ?_
  refine c_call ?_
  refine c_pcons ?_
  refine c_comp ?_
  refine c_seq ?_
  refine c_name rfl ?_
  refine sq_T (ds := List.map (eT PyData.int) scale_) rfl ?_
  refine co_p (enc' := PyData.int) (el := [some (.d ((eT (eT PyData.int)) scale_)), some (.d ((eL PyData.int) heap_)), none, none, none]) rfl (nc_cons rfl datO_none nc_nil) rfl ?_ ?_
  · intro a1
    refine ⟨[some (.d ((eT (eT PyData.int)) scale_)), some (.d ((eL PyData.int) heap_)), some (.d ((eT PyData.int) a1)), none, none], (bn (e' := [some (.d ((eT (eT PyData.int)) scale_)), some (.d ((eL PyData.int) heap_)), some (.d ((eT PyData.int) a1)), none, none]) rfl okO_none rfl), ?_⟩
    refine c_turnY ?_
    refine c_take ?_
    refine c_call ?_
    refine c_pcons ?_
    refine c_comp ?_
    refine c_zipM ?_
    refine c_cons ?_
    refine c_take ?_
    refine c_name rfl ?_
    refine t_pure rfl ?_
    refine c_cons ?_
    refine c_take ?_
    refine c_name rfl ?_
    refine t_pure rfl ?_
    refine c_nil ?_
    refine z_pure (e := PyData.int) (f := PyData.int) (xs := a1) (ys := heap_) rfl rfl ?_
    refine co_p (enc' := PyData.int) (el := [some (.d ((eT (eT PyData.int)) scale_)), some (.d ((eL PyData.int) heap_)), some (.d ((eT PyData.int) a1)), none, none]) rfl (nc_cons rfl datO_none (nc_cons rfl datO_none nc_nil)) rfl ?_ ?_
    · intro a2
      refine ⟨[some (.d ((eT (eT PyData.int)) scale_)), some (.d ((eL PyData.int) heap_)), some (.d ((eT PyData.int) a1)), some (.d (PyData.int a2.1)), some (.d (PyData.int a2.2))], (bt_tup rfl (bt_cons (bn (e' := [some (.d ((eT (eT PyData.int)) scale_)), some (.d ((eL PyData.int) heap_)), some (.d ((eT PyData.int) a1)), some (.d (PyData.int a2.1)), none]) rfl okO_none rfl) (bt_cons (bn (e' := [some (.d ((eT (eT PyData.int)) scale_)), some (.d ((eL PyData.int) heap_)), some (.d ((eT PyData.int) a1)), some (.d (PyData.int a2.1)), some (.d (PyData.int a2.2))]) rfl okO_none rfl) bt_nil))), ?_⟩
      refine c_turnY ?_
      refine c_take ?_
      refine c_bin ?_
      refine c_name rfl ?_
      refine c_name rfl ?_
      refine b_part rfl rfl mulS ?_
      intro mul3
      refine t_pure rfl ?_
      exact sim_ret ⟨rfl, rfl⟩
    intro xs4
    refine c_pnil ?_
    refine cb_pure (xs := [eL PyData.int xs4]) rfl sumL ?_
    refine t_pure rfl ?_
    exact sim_ret ⟨rfl, rfl⟩
  intro xs5
  refine c_pnil ?_
  refine cb_pure (r := .d (eT PyData.int xs5)) rfl rfl ?_
  refine rt_d ?_
  exact sim_ret ⟨.inl rfl, rfl⟩
def S_law_heap (deck_ : List Int) (scale_ : List (List Int)) (most_ : Int) : M ((List Int) × (List Int)) :=
  ixM scale_ (0 : Int) >>= fun it1 =>
  compS (fun (a2 : Int) (s3 : (List Int)) => S_law_draw s3 (9 : Int) >>= fun r4 =>
  .ok (some r4.1, r4.2)) it1 deck_ >>= fun p5 =>
  whileM (fun (s6 : (List Int) × Int) => lendM (S_law_sums scale_ s6.1 >>= fun r7 =>
  extM max r7 >>= fun max8 =>
  .ok (decide (most_ < max8))) >>= fun b9 =>
  .ok b9) (fun (s6 : (List Int) × Int) =>
  ixM s6.1 s6.2 >>= fun it10 =>
  setM s6.1 s6.2 (it10 / (2 : Int)) >>= fun ys11 =>
  modM (s6.2 + (1 : Int)) ((ys11).length : Int) >>= fun rem12 =>
  .ok (ys11, rem12)) FUEL (p5.1, (0 : Int)) >>= fun s6 =>
  .ok (s6.1, p5.2)
theorem L_law_heap (deck_ : List Int) (scale_ : List (List Int)) (most_ : Int) : FSim (F_law_heap [.bor (.lst (List.map PyData.int deck_)), .d ((eT (eT PyData.int)) scale_), .d (PyData.int most_)]) (S_law_heap deck_ scale_ most_) (fun (r : (List Int) × (List Int)) => Ret.d ((eT PyData.int) r.1)) (fun (r : (List Int) × (List Int)) => [.bor (.lst (List.map PyData.int r.2)), .d ((eT (eT PyData.int)) scale_), .d (PyData.int most_)]) := by
  refine fs_mk ?_
  unfold S_law_heap
  refine sim_bnd0 ?_
  have e0 : envOf 6 [.bor (.lst (List.map PyData.int deck_)), .d ((eT (eT PyData.int)) scale_), .d (PyData.int most_)] = [some (.cell .bor (.lst (List.map PyData.int deck_))), some (.d ((eT (eT PyData.int)) scale_)), some (.d (PyData.int most_)), none, none, none] := rfl
  rw [e0]
  unfold f_law_heap
  refine c_blk ?_
  refine c_set ?_
  refine c_comp ?_
  refine c_seq ?_
  refine c_bin ?_
  refine c_name rfl ?_
  refine c_const ?_
  refine b_part (u := (eT (eT PyData.int)) scale_) rfl rfl (ixS (e := (eT PyData.int)) (xs := scale_) rfl) ?_
  intro it1
  refine sq_T (ds := List.map PyData.int it1) rfl ?_
  refine co_s (enc' := PyData.int) (fun (s3 : (List Int)) (e : SE) => e = [some (.cell .bor (.lst (List.map PyData.int s3))), some (.d ((eT (eT PyData.int)) scale_)), some (.d (PyData.int most_)), none, none, none]) rfl (fun s3 e h => by subst h; exact (nc_cons rfl datO_none nc_nil)) ?_ ?_
  · intro a2 s3 e h
    subst h
    refine ⟨[some (.cell .bor (.lst (List.map PyData.int s3))), some (.d ((eT (eT PyData.int)) scale_)), some (.d (PyData.int most_)), none, none, some (.d (PyData.int a2))], (bn (e' := [some (.cell .bor (.lst (List.map PyData.int s3))), some (.d ((eT (eT PyData.int)) scale_)), some (.d (PyData.int most_)), none, none, some (.d (PyData.int a2))]) rfl okO_none rfl), ?_⟩
    refine c_turnY ?_
    refine c_take ?_
    refine c_callF ?_
    refine c_aref rfl ?_
    refine c_adat ?_
    refine c_take ?_
    refine c_const ?_
    refine t_pure rfl ?_
    refine c_anil ?_
    refine cf_s (e2 := fun r4 => [some (.cell .bor (.lst (List.map PyData.int r4.2))), some (.d ((eT (eT PyData.int)) scale_)), some (.d (PyData.int most_)), none, none, some (.d (PyData.int a2))]) (L_law_draw s3 (9 : Int)) (show List.Nodup ([0] : List Nat) by decide) rfl rfl (fun _ => rfl) (fun _ => trivial) ?_
    intro r4
    refine t_pure rfl ?_
    exact sim_ret ⟨rfl, rfl⟩
  intro ys1 ys2 e h e' he
  obtain rfl : e' = [some (.cell .bor (.lst (List.map PyData.int ys2))), some (.d ((eT (eT PyData.int)) scale_)), some (.d (PyData.int most_)), none, none, none] := by rw [← he, h]; rfl
  generalize hp : (ys1, ys2) = p5
  obtain rfl : ys1 = p5.1 := by rw [← hp]
  obtain rfl : ys2 = p5.2 := by rw [← hp]
  clear hp
  refine as_t (e' := [some (.cell .bor (.lst (List.map PyData.int p5.2))), some (.d ((eT (eT PyData.int)) scale_)), some (.d (PyData.int most_)), some (.cell .own (.lst (List.map PyData.int p5.1))), none, none]) rfl okO_none rfl ?_
  refine c_blk1 ?_
  refine c_set ?_
  refine c_const ?_
  refine as_d (e' := [some (.cell .bor (.lst (List.map PyData.int p5.2))), some (.d ((eT (eT PyData.int)) scale_)), some (.d (PyData.int most_)), some (.cell .own (.lst (List.map PyData.int p5.1))), some (.d (PyData.int (0 : Int))), none]) rfl okO_none rfl ?_
  refine c_blk1 ?_
  refine wh_n (fun (s6 : (List Int) × Int) (e : SE) => e = [some (.cell .bor (.lst (List.map PyData.int p5.2))), some (.d ((eT (eT PyData.int)) scale_)), some (.d (PyData.int most_)), some (.cell .own (.lst (List.map PyData.int s6.1))), some (.d (PyData.int s6.2)), none]) rfl ?_ ?_ ?_
  · intro s6 e hK
    have he := hK
    subst he
    refine sim_bnd0 ?_
    refine lend_t (el := [some (.cell .bor (.lst (List.map PyData.int p5.2))), some (.d ((eT (eT PyData.int)) scale_)), some (.d (PyData.int most_)), some (.d ((eL PyData.int) s6.1)), some (.d (PyData.int s6.2)), none]) rfl rfl ?_ (ne_c (nls_of nl_int _) (ne_d ((nl_T (nl_T nl_int)) _) (ne_d (nl_int _) (ne_none (ne_d (nl_int _) (ne_none ne_nil)))))) (Nat.le_of_ble_eq_true rfl) rfl ?_
    · refine sim_bnd0 ?_
      refine c_tru ?_
      refine c_bin ?_
      refine c_call ?_
      refine c_pcons ?_
      refine c_callF ?_
      refine c_adat ?_
      refine c_take ?_
      refine c_name rfl ?_
      refine t_pure rfl ?_
      refine c_adat ?_
      refine c_take ?_
      refine c_name rfl ?_
      refine t_pure rfl ?_
      refine c_anil ?_
      refine cf_s (e2 := fun r7 => [some (.cell .bor (.lst (List.map PyData.int p5.2))), some (.d ((eT (eT PyData.int)) scale_)), some (.d (PyData.int most_)), some (.d ((eL PyData.int) s6.1)), some (.d (PyData.int s6.2)), none]) (L_law_sums scale_ s6.1) (show List.Nodup ([] : List Nat) by decide) rfl rfl (fun _ => rfl) (fun _ => trivial) ?_
      intro r7
      refine c_pnil ?_
      refine cb_part (xs := [(eT PyData.int) r7]) rfl (extS (xs := r7) rfl) ?_
      intro max8
      refine c_name rfl ?_
      refine b_pure rfl rfl rfl ?_
      refine tr_pure rfl rfl ?_
      exact sim_ret ⟨rfl, rfl⟩
    intro b9
    exact sim_ret ⟨rfl, rfl⟩
  · intro s6 e hK
    have he := hK
    subst he
    refine sim_bnd0 ?_
    refine c_blk ?_
    refine c_setIx ?_
    refine c_take ?_
    refine c_bin ?_
    refine c_bin ?_
    refine c_cell rfl ?_
    refine c_name rfl ?_
    refine b_part (u := (eL PyData.int) s6.1) rfl rfl (ixS (e := PyData.int) (xs := s6.1) rfl) ?_
    intro it10
    refine c_const ?_
    refine b_pure rfl rfl (div_lit (by decide +kernel)) ?_
    refine t_pure rfl ?_
    refine c_cell rfl ?_
    refine c_take ?_
    refine c_name rfl ?_
    refine t_pure rfl ?_
    refine si_t (e := PyData.int) (a := (it10 / (2 : Int))) (e2 := fun ys11 => [some (.cell .bor (.lst (List.map PyData.int p5.2))), some (.d ((eT (eT PyData.int)) scale_)), some (.d (PyData.int most_)), some (.cell .own (.lst (List.map PyData.int ys11))), some (.d (PyData.int s6.2)), none]) rfl rfl (fun _ => rfl) ?_
    intro ys11
    refine c_blk1 ?_
    refine c_set ?_
    refine c_bin ?_
    refine c_call ?_
    refine c_pcons ?_
    refine c_bin ?_
    refine c_name rfl ?_
    refine c_const ?_
    refine b_pure rfl rfl rfl ?_
    refine c_pnil ?_
    refine cb_pure rfl rfl ?_
    refine c_call ?_
    refine c_pcons ?_
    refine c_cell rfl ?_
    refine c_pnil ?_
    refine cb_pure (xs := [(eL PyData.int) ys11]) rfl lenL ?_
    refine b_part rfl rfl modS ?_
    intro rem12
    refine as_d (e' := [some (.cell .bor (.lst (List.map PyData.int p5.2))), some (.d ((eT (eT PyData.int)) scale_)), some (.d (PyData.int most_)), some (.cell .own (.lst (List.map PyData.int ys11))), some (.d (PyData.int rem12)), none]) rfl okO_d rfl ?_
    refine c_end1 ?_
    exact sim_ret ⟨.inl rfl, rfl⟩
  intro s6 e hK
  have he := hK
  subst he
  refine c_blk1 ?_
  refine c_ret ?_
  refine c_call ?_
  refine c_pcons ?_
  refine c_cell rfl ?_
  refine c_pnil ?_
  refine cb_pure (r := .d (eT PyData.int s6.1)) rfl rfl ?_
  refine rt_d ?_
  exact sim_ret ⟨.inl rfl, rfl⟩
theorem L_law_sums_2 (scale_ : List (List Int)) (heap_ : List Int) : FSim (F_law_sums [.d ((eT (eT PyData.int)) scale_), .d ((eT PyData.int) heap_)]) (S_law_sums scale_ heap_) (fun (r : (List Int)) => Ret.d ((eT PyData.int) r)) (fun (r : (List Int)) => [.d ((eT (eT PyData.int)) scale_), .d ((eT PyData.int) heap_)]) := by
  refine fs_mk ?_
  unfold S_law_sums
  refine sim_bnd0 ?_
  have e0 : envOf 5 [.d ((eT (eT PyData.int)) scale_), .d ((eT PyData.int) heap_)] = [some (.d ((eT (eT PyData.int)) scale_)), some (.d ((eT PyData.int) heap_)), none, none, none] := rfl
  rw [e0]
  unfold f_law_sums
  refine c_blk ?_
  refine c_ret ?_
  refine c_call ?_
  refine c_pcons ?_
  refine c_comp ?_
  refine c_seq ?_
  refine c_name rfl ?_
  refine sq_T (ds := List.map (eT PyData.int) scale_) rfl ?_
  refine co_p (enc' := PyData.int) (el := [some (.d ((eT (eT PyData.int)) scale_)), some (.d ((eT PyData.int) heap_)), none, none, none]) rfl (nc_cons rfl datO_none nc_nil) rfl ?_ ?_
  · intro a1
    refine ⟨[some (.d ((eT (eT PyData.int)) scale_)), some (.d ((eT PyData.int) heap_)), some (.d ((eT PyData.int) a1)), none, none], (bn (e' := [some (.d ((eT (eT PyData.int)) scale_)), some (.d ((eT PyData.int) heap_)), some (.d ((eT PyData.int) a1)), none, none]) rfl okO_none rfl), ?_⟩
    refine c_turnY ?_
    refine c_take ?_
    refine c_call ?_
    refine c_pcons ?_
    refine c_comp ?_
    refine c_zipM ?_
    refine c_cons ?_
    refine c_take ?_
    refine c_name rfl ?_
    refine t_pure rfl ?_
    refine c_cons ?_
    refine c_take ?_
    refine c_name rfl ?_
    refine t_pure rfl ?_
    refine c_nil ?_
    refine z_pure (e := PyData.int) (f := PyData.int) (xs := a1) (ys := heap_) rfl rfl ?_
    refine co_p (enc' := PyData.int) (el := [some (.d ((eT (eT PyData.int)) scale_)), some (.d ((eT PyData.int) heap_)), some (.d ((eT PyData.int) a1)), none, none]) rfl (nc_cons rfl datO_none (nc_cons rfl datO_none nc_nil)) rfl ?_ ?_
    · intro a2
      refine ⟨[some (.d ((eT (eT PyData.int)) scale_)), some (.d ((eT PyData.int) heap_)), some (.d ((eT PyData.int) a1)), some (.d (PyData.int a2.1)), some (.d (PyData.int a2.2))], (bt_tup rfl (bt_cons (bn (e' := [some (.d ((eT (eT PyData.int)) scale_)), some (.d ((eT PyData.int) heap_)), some (.d ((eT PyData.int) a1)), some (.d (PyData.int a2.1)), none]) rfl okO_none rfl) (bt_cons (bn (e' := [some (.d ((eT (eT PyData.int)) scale_)), some (.d ((eT PyData.int) heap_)), some (.d ((eT PyData.int) a1)), some (.d (PyData.int a2.1)), some (.d (PyData.int a2.2))]) rfl okO_none rfl) bt_nil))), ?_⟩
      refine c_turnY ?_
      refine c_take ?_
      refine c_bin ?_
      refine c_name rfl ?_
      refine c_name rfl ?_
      refine b_part rfl rfl mulS ?_
      intro mul3
      refine t_pure rfl ?_
      exact sim_ret ⟨rfl, rfl⟩
    intro xs4
    refine c_pnil ?_
    refine cb_pure (xs := [eL PyData.int xs4]) rfl sumL ?_
    refine t_pure rfl ?_
    exact sim_ret ⟨rfl, rfl⟩
  intro xs5
  refine c_pnil ?_
  refine cb_pure (r := .d (eT PyData.int xs5)) rfl rfl ?_
  refine rt_d ?_
  exact sim_ret ⟨.inl rfl, rfl⟩
def S_law_lot (scale_ : List (List Int)) (sums_ : List Int) : M ((List (List Int))) :=
  ixM scale_ (0 : Int) >>= fun it1 =>
  range1M ((it1).length : Int) >>= fun rng2 =>
  forM' (fun (a12 : Int) (s3 : (List ((List Int) × (List Int)))) =>
  forM' (fun (a20 : (List Int) × (List Int)) (s13 : (List ((List Int) × (List Int)))) =>
  whileM (fun (s21 : (List ((List Int) × (List Int))) × (List Int) × Int) => extM min s21.2.1 >>= fun min25 =>
  .ok (decide ((0 : Int) ≤ min25))) (fun (s21 : (List ((List Int) × (List Int))) × (List Int) × Int) =>
  lenG (List.map (fun (a26 : List Int) => (0 : Int)) scale_) >>= fun xs27 =>
  ixM scale_ (0 : Int) >>= fun it28 =>
  range2M (a12 + (1 : Int)) ((it28).length : Int) >>= fun rng29 =>
  forM' (fun (a33 : Int) (s30 : (List Int)) =>
  compP (fun (a34 : Int × (List Int)) => ixM a34.2 a33 >>= fun it35 =>
  if (decide ((0 : Int) < it35)) = true then (ixM a34.2 a33 >>= fun it36 =>
  divM a34.1 it36 >>= fun quo37 =>
  .ok (some quo37)) else (.ok none)) (List.zip s21.2.1 scale_) >>= fun xs38 =>
  extM min xs38 >>= fun min39 =>
  compP (fun (a40 : Int × (List Int)) => ixM a40.2 a33 >>= fun it41 =>
  mulM min39 it41 >>= fun mul42 =>
  .ok (some (a40.1 + mul42))) (List.zip s30 scale_) >>= fun xs43 =>
  .ok xs43) rng29 xs27 >>= fun s30 =>
  lenG (List.map (fun (a44 : Int × Int) => (1 : Int)) (List.filter (fun (a44 : Int × Int) => (decide (a44.2 < a44.1))) (List.zip s21.2.1 s30))) >>= fun xs45 =>
  (if (eqD xs45 ([] : List Int)) = true then (lenG (a20.1 ++ [s21.2.2]) >>= fun cat47 =>
  appM s21.1 (cat47, s21.2.1) >>= fun ys48 =>
  .ok ys48) else (.ok s21.1)) >>= fun s46 =>
  compP (fun (a49 : Int × (List Int)) => ixM a49.2 a12 >>= fun it50 =>
  .ok (some (a49.1 - it50))) (List.zip s21.2.1 scale_) >>= fun xs51 =>
  .ok (s46, xs51, (s21.2.2 + (1 : Int)))) FUEL (s13, a20.2, (0 : Int)) >>= fun s21 =>
  .ok s21.1) s3 ([] : List ((List Int) × (List Int))) >>= fun s13 =>
  .ok s13) rng2 [(([] : List Int), sums_)] >>= fun s3 =>
  lenG (List.map (fun (a52 : (List Int) × (List Int)) => a52.1) s3) >>= fun xs53 =>
  .ok xs53
theorem L_law_lot (scale_ : List (List Int)) (sums_ : List Int) : FSim (F_law_lot [.d ((eT (eT PyData.int)) scale_), .d ((eT PyData.int) sums_)]) (S_law_lot scale_ sums_) (fun (r : (List (List Int))) => Ret.tmp (.lst (List.map (eT PyData.int) r))) (fun (r : (List (List Int))) => [.d ((eT (eT PyData.int)) scale_), .d ((eT PyData.int) sums_)]) := by
  refine fs_mk ?_
  unfold S_law_lot
  refine sim_bnd0 ?_
  have e0 : envOf 14 [.d ((eT (eT PyData.int)) scale_), .d ((eT PyData.int) sums_)] = [some (.d ((eT (eT PyData.int)) scale_)), some (.d ((eT PyData.int) sums_)), none, none, none, none, none, none, none, none, none, none, none, none] := rfl
  rw [e0]
  unfold f_law_lot
  refine c_blk ?_
  refine c_frz ?_
  refine c_set ?_
  refine c_lst ?_
  refine c_cons ?_
  refine c_take ?_
  refine c_tup ?_
  refine c_cons ?_
  refine c_take ?_
  refine c_tup ?_
  refine c_nil ?_
  refine tu_pure (v := (eT PyData.int) ([] : List Int)) rfl rfl ?_
  refine t_pure rfl ?_
  refine c_cons ?_
  refine c_take ?_
  refine c_name rfl ?_
  refine t_pure rfl ?_
  refine c_nil ?_
  refine tu_pure (v := (eP (eT PyData.int) (eT PyData.int)) (([] : List Int), sums_)) rfl rfl ?_
  refine t_pure rfl ?_
  refine c_nil ?_
  refine ls_pure (ys := List.map (eP (eT PyData.int) (eT PyData.int)) [(([] : List Int), sums_)]) rfl rfl ?_
  refine as_t (e' := [some (.d ((eT (eT PyData.int)) scale_)), some (.d ((eT PyData.int) sums_)), some (.cell .own (.lst (List.map (eP (eT PyData.int) (eT PyData.int)) [(([] : List Int), sums_)]))), none, none, none, none, none, none, none, none, none, none, none]) rfl okO_none rfl ?_
  refine fz_t (v := (eL (eP (eT PyData.int) (eT PyData.int))) [(([] : List Int), sums_)]) (e' := [some (.d ((eT (eT PyData.int)) scale_)), some (.d ((eT PyData.int) sums_)), some (.d ((eL (eP (eT PyData.int) (eT PyData.int))) [(([] : List Int), sums_)])), none, none, none, none, none, none, none, none, none, none, none]) rfl ?_
  refine c_blk1 ?_
  refine c_for ?_
  refine c_rng1 ?_
  refine c_pcons ?_
  refine c_call ?_
  refine c_pcons ?_
  refine c_bin ?_
  refine c_name rfl ?_
  refine c_const ?_
  refine b_part (u := (eT (eT PyData.int)) scale_) rfl rfl (ixS (e := (eT PyData.int)) (xs := scale_) rfl) ?_
  intro it1
  refine c_pnil ?_
  refine cb_pure (xs := [(eT PyData.int) it1]) rfl lenT ?_
  refine c_pnil ?_
  refine r1_part rfl ?_
  intro rng2
  refine fo_n (fun (s3 : (List ((List Int) × (List Int)))) (e : SE) => ∃ (o4 : Option MV), ∃ (o5 : Option MV), ∃ (o6 : Option MV), ∃ (o7 : Option MV), ∃ (o8 : Option MV), ∃ (o9 : Option MV), ∃ (o10 : Option MV), ∃ (o11 : Option MV), datO o4 ∧ okO o5 ∧ datO o6 ∧ datO o7 ∧ datO o8 ∧ datO o9 ∧ datO o10 ∧ datO o11 ∧ e = [some (.d ((eT (eT PyData.int)) scale_)), some (.d ((eT PyData.int) sums_)), some (.d ((eL (eP (eT PyData.int) (eT PyData.int))) s3)), o4, o5, o6, o7, o8, o9, o10, o11, none, none, none]) ⟨_, _, _, _, _, _, _, _, datO_none, okO_none, datO_none, datO_none, datO_none, datO_none, datO_none, datO_none, rfl⟩ (fun _ _ => trivial) ?_ ?_
  · intro a12 s3 e hK
    obtain ⟨o4, o5, o6, o7, o8, o9, o10, o11, ho4, ho5, ho6, ho7, ho8, ho9, ho10, ho11, he⟩ := hK
    subst he
    refine ⟨[some (.d ((eT (eT PyData.int)) scale_)), some (.d ((eT PyData.int) sums_)), some (.d ((eL (eP (eT PyData.int) (eT PyData.int))) s3)), some (.d (PyData.int a12)), o5, o6, o7, o8, o9, o10, o11, none, none, none], (bn (e' := [some (.d ((eT (eT PyData.int)) scale_)), some (.d ((eT PyData.int) sums_)), some (.d ((eL (eP (eT PyData.int) (eT PyData.int))) s3)), some (.d (PyData.int a12)), o5, o6, o7, o8, o9, o10, o11, none, none, none]) rfl (datO.ok ho4) rfl), ?_⟩
    refine sim_bnd0 ?_
    refine c_blk ?_
    refine c_set ?_
    refine c_lst ?_
    refine c_nil ?_
    refine ls_pure (ys := List.map (eP (eT PyData.int) (eT PyData.int)) ([] : List ((List Int) × (List Int)))) rfl rfl ?_
    refine as_t (e' := [some (.d ((eT (eT PyData.int)) scale_)), some (.d ((eT PyData.int) sums_)), some (.d ((eL (eP (eT PyData.int) (eT PyData.int))) s3)), some (.d (PyData.int a12)), some (.cell .own (.lst (List.map (eP (eT PyData.int) (eT PyData.int)) ([] : List ((List Int) × (List Int)))))), o6, o7, o8, o9, o10, o11, none, none, none]) rfl ho5 rfl ?_
    refine c_blk1 ?_
    refine c_for ?_
    refine c_seq ?_
    refine c_name rfl ?_
    refine sq_L (ds := List.map (eP (eT PyData.int) (eT PyData.int)) s3) (lk := []) rfl rfl ?_
    refine fo_n (fun (s13 : (List ((List Int) × (List Int)))) (e : SE) => ∃ (o14 : Option MV), ∃ (o15 : Option MV), ∃ (o16 : Option MV), ∃ (o17 : Option MV), ∃ (o18 : Option MV), ∃ (o19 : Option MV), datO o14 ∧ datO o15 ∧ datO o16 ∧ datO o17 ∧ datO o18 ∧ datO o19 ∧ e = [some (.d ((eT (eT PyData.int)) scale_)), some (.d ((eT PyData.int) sums_)), some (.d ((eL (eP (eT PyData.int) (eT PyData.int))) s3)), some (.d (PyData.int a12)), some (.cell .own (.lst (List.map (eP (eT PyData.int) (eT PyData.int)) s13))), o14, o15, o16, o17, o18, o19, none, none, none]) ⟨_, _, _, _, _, _, ho6, ho7, ho8, ho9, ho10, ho11, rfl⟩ (fun _ _ => trivial) ?_ ?_
    · intro a20 s13 e hK
      obtain ⟨o14, o15, o16, o17, o18, o19, ho14, ho15, ho16, ho17, ho18, ho19, he⟩ := hK
      subst he
      refine ⟨[some (.d ((eT (eT PyData.int)) scale_)), some (.d ((eT PyData.int) sums_)), some (.d ((eL (eP (eT PyData.int) (eT PyData.int))) s3)), some (.d (PyData.int a12)), some (.cell .own (.lst (List.map (eP (eT PyData.int) (eT PyData.int)) s13))), some (.d ((eT PyData.int) a20.1)), some (.d ((eT PyData.int) a20.2)), o16, o17, o18, o19, none, none, none], (bt_tup rfl (bt_cons (bn (e' := [some (.d ((eT (eT PyData.int)) scale_)), some (.d ((eT PyData.int) sums_)), some (.d ((eL (eP (eT PyData.int) (eT PyData.int))) s3)), some (.d (PyData.int a12)), some (.cell .own (.lst (List.map (eP (eT PyData.int) (eT PyData.int)) s13))), some (.d ((eT PyData.int) a20.1)), o15, o16, o17, o18, o19, none, none, none]) rfl (datO.ok ho14) rfl) (bt_cons (bn (e' := [some (.d ((eT (eT PyData.int)) scale_)), some (.d ((eT PyData.int) sums_)), some (.d ((eL (eP (eT PyData.int) (eT PyData.int))) s3)), some (.d (PyData.int a12)), some (.cell .own (.lst (List.map (eP (eT PyData.int) (eT PyData.int)) s13))), some (.d ((eT PyData.int) a20.1)), some (.d ((eT PyData.int) a20.2)), o16, o17, o18, o19, none, none, none]) rfl (datO.ok ho15) rfl) bt_nil))), ?_⟩
      refine sim_bnd0 ?_
      refine c_blk ?_
      refine c_set ?_
      refine c_const ?_
      refine as_d (e' := [some (.d ((eT (eT PyData.int)) scale_)), some (.d ((eT PyData.int) sums_)), some (.d ((eL (eP (eT PyData.int) (eT PyData.int))) s3)), some (.d (PyData.int a12)), some (.cell .own (.lst (List.map (eP (eT PyData.int) (eT PyData.int)) s13))), some (.d ((eT PyData.int) a20.1)), some (.d ((eT PyData.int) a20.2)), some (.d (PyData.int (0 : Int))), o17, o18, o19, none, none, none]) rfl (datO.ok ho16) rfl ?_
      refine c_blk1 ?_
      refine wh_n (fun (s21 : (List ((List Int) × (List Int))) × (List Int) × Int) (e : SE) => ∃ (o22 : Option MV), ∃ (o23 : Option MV), ∃ (o24 : Option MV), datO o22 ∧ datO o23 ∧ datO o24 ∧ e = [some (.d ((eT (eT PyData.int)) scale_)), some (.d ((eT PyData.int) sums_)), some (.d ((eL (eP (eT PyData.int) (eT PyData.int))) s3)), some (.d (PyData.int a12)), some (.cell .own (.lst (List.map (eP (eT PyData.int) (eT PyData.int)) s21.1))), some (.d ((eT PyData.int) a20.1)), some (.d ((eT PyData.int) s21.2.1)), some (.d (PyData.int s21.2.2)), o22, o23, o24, none, none, none]) ⟨_, _, _, ho17, ho18, ho19, rfl⟩ ?_ ?_ ?_
      · intro s21 e hK
        obtain ⟨o22, o23, o24, ho22, ho23, ho24, he⟩ := hK
        subst he
        refine sim_bnd0 ?_
        refine c_tru ?_
        refine c_bin ?_
        refine c_call ?_
        refine c_pcons ?_
        refine c_name rfl ?_
        refine c_pnil ?_
        refine cb_part (xs := [(eT PyData.int) s21.2.1]) rfl (extS (xs := s21.2.1) rfl) ?_
        intro min25
        refine c_const ?_
        refine b_pure rfl rfl rfl ?_
        refine tr_pure rfl rfl ?_
        exact sim_ret ⟨rfl, ⟨_, _, _, ho22, ho23, ho24, rfl⟩⟩
      · intro s21 e hK
        obtain ⟨o22, o23, o24, ho22, ho23, ho24, he⟩ := hK
        subst he
        refine sim_bnd0 ?_
        refine c_blk ?_
        refine c_frz ?_
        refine c_set ?_
        refine c_comp ?_
        refine c_seq ?_
        refine c_name rfl ?_
        refine sq_T (ds := List.map (eT PyData.int) scale_) rfl ?_
        refine co_m (enc' := PyData.int) (el := [some (.d ((eT (eT PyData.int)) scale_)), some (.d ((eT PyData.int) sums_)), some (.d ((eL (eP (eT PyData.int) (eT PyData.int))) s3)), some (.d (PyData.int a12)), some (.cell .own (.lst (List.map (eP (eT PyData.int) (eT PyData.int)) s21.1))), some (.d ((eT PyData.int) a20.1)), some (.d ((eT PyData.int) s21.2.1)), some (.d (PyData.int s21.2.2)), o22, o23, o24, none, none, none]) rfl (nc_cons rfl datO_none nc_nil) rfl ?_ ?_
        · intro a26
          refine ⟨[some (.d ((eT (eT PyData.int)) scale_)), some (.d ((eT PyData.int) sums_)), some (.d ((eL (eP (eT PyData.int) (eT PyData.int))) s3)), some (.d (PyData.int a12)), some (.cell .own (.lst (List.map (eP (eT PyData.int) (eT PyData.int)) s21.1))), some (.d ((eT PyData.int) a20.1)), some (.d ((eT PyData.int) s21.2.1)), some (.d (PyData.int s21.2.2)), o22, o23, o24, some (.d ((eT PyData.int) a26)), none, none], (bn (e' := [some (.d ((eT (eT PyData.int)) scale_)), some (.d ((eT PyData.int) sums_)), some (.d ((eL (eP (eT PyData.int) (eT PyData.int))) s3)), some (.d (PyData.int a12)), some (.cell .own (.lst (List.map (eP (eT PyData.int) (eT PyData.int)) s21.1))), some (.d ((eT PyData.int) a20.1)), some (.d ((eT PyData.int) s21.2.1)), some (.d (PyData.int s21.2.2)), o22, o23, o24, some (.d ((eT PyData.int) a26)), none, none]) rfl okO_none rfl), ?_⟩
          refine c_turnY ?_
          refine c_take ?_
          refine c_const ?_
          refine t_pure rfl ?_
          exact sim_ret ⟨rfl, rfl⟩
        intro xs27
        refine as_t (e' := [some (.d ((eT (eT PyData.int)) scale_)), some (.d ((eT PyData.int) sums_)), some (.d ((eL (eP (eT PyData.int) (eT PyData.int))) s3)), some (.d (PyData.int a12)), some (.cell .own (.lst (List.map (eP (eT PyData.int) (eT PyData.int)) s21.1))), some (.d ((eT PyData.int) a20.1)), some (.d ((eT PyData.int) s21.2.1)), some (.d (PyData.int s21.2.2)), some (.cell .own (.lst (List.map PyData.int xs27))), o23, o24, none, none, none]) rfl (datO.ok ho22) rfl ?_
        refine fz_t (v := (eL PyData.int) xs27) (e' := [some (.d ((eT (eT PyData.int)) scale_)), some (.d ((eT PyData.int) sums_)), some (.d ((eL (eP (eT PyData.int) (eT PyData.int))) s3)), some (.d (PyData.int a12)), some (.cell .own (.lst (List.map (eP (eT PyData.int) (eT PyData.int)) s21.1))), some (.d ((eT PyData.int) a20.1)), some (.d ((eT PyData.int) s21.2.1)), some (.d (PyData.int s21.2.2)), some (.d ((eL PyData.int) xs27)), o23, o24, none, none, none]) rfl ?_
        refine c_blk1 ?_
        refine c_for ?_
        refine c_rng2 ?_
        refine c_pcons ?_
        refine c_bin ?_
        refine c_name rfl ?_
        refine c_const ?_
        refine b_pure rfl rfl rfl ?_
        refine c_pcons ?_
        refine c_call ?_
        refine c_pcons ?_
        refine c_bin ?_
        refine c_name rfl ?_
        refine c_const ?_
        refine b_part (u := (eT (eT PyData.int)) scale_) rfl rfl (ixS (e := (eT PyData.int)) (xs := scale_) rfl) ?_
        intro it28
        refine c_pnil ?_
        refine cb_pure (xs := [(eT PyData.int) it28]) rfl lenT ?_
        refine c_pnil ?_
        refine r2_part rfl ?_
        intro rng29
        refine fo_n (fun (s30 : (List Int)) (e : SE) => ∃ (o31 : Option MV), ∃ (o32 : Option MV), datO o31 ∧ datO o32 ∧ e = [some (.d ((eT (eT PyData.int)) scale_)), some (.d ((eT PyData.int) sums_)), some (.d ((eL (eP (eT PyData.int) (eT PyData.int))) s3)), some (.d (PyData.int a12)), some (.cell .own (.lst (List.map (eP (eT PyData.int) (eT PyData.int)) s21.1))), some (.d ((eT PyData.int) a20.1)), some (.d ((eT PyData.int) s21.2.1)), some (.d (PyData.int s21.2.2)), some (.d ((eL PyData.int) s30)), o31, o32, none, none, none]) ⟨_, _, ho23, ho24, rfl⟩ (fun _ _ => trivial) ?_ ?_
        · intro a33 s30 e hK
          obtain ⟨o31, o32, ho31, ho32, he⟩ := hK
          subst he
          refine ⟨[some (.d ((eT (eT PyData.int)) scale_)), some (.d ((eT PyData.int) sums_)), some (.d ((eL (eP (eT PyData.int) (eT PyData.int))) s3)), some (.d (PyData.int a12)), some (.cell .own (.lst (List.map (eP (eT PyData.int) (eT PyData.int)) s21.1))), some (.d ((eT PyData.int) a20.1)), some (.d ((eT PyData.int) s21.2.1)), some (.d (PyData.int s21.2.2)), some (.d ((eL PyData.int) s30)), some (.d (PyData.int a33)), o32, none, none, none], (bn (e' := [some (.d ((eT (eT PyData.int)) scale_)), some (.d ((eT PyData.int) sums_)), some (.d ((eL (eP (eT PyData.int) (eT PyData.int))) s3)), some (.d (PyData.int a12)), some (.cell .own (.lst (List.map (eP (eT PyData.int) (eT PyData.int)) s21.1))), some (.d ((eT PyData.int) a20.1)), some (.d ((eT PyData.int) s21.2.1)), some (.d (PyData.int s21.2.2)), some (.d ((eL PyData.int) s30)), some (.d (PyData.int a33)), o32, none, none, none]) rfl (datO.ok ho31) rfl), ?_⟩
          refine sim_bnd0 ?_
          refine c_blk ?_
          refine c_set ?_
          refine c_call ?_
          refine c_pcons ?_
          refine c_comp ?_
          refine c_zipM ?_
          refine c_cons ?_
          refine c_take ?_
          refine c_name rfl ?_
          refine t_pure rfl ?_
          refine c_cons ?_
          refine c_take ?_
          refine c_name rfl ?_
          refine t_pure rfl ?_
          refine c_nil ?_
          refine z_pure (e := PyData.int) (f := (eT PyData.int)) (xs := s21.2.1) (ys := scale_) rfl rfl ?_
          refine co_p (enc' := PyData.int) (el := [some (.d ((eT (eT PyData.int)) scale_)), some (.d ((eT PyData.int) sums_)), some (.d ((eL (eP (eT PyData.int) (eT PyData.int))) s3)), some (.d (PyData.int a12)), some (.cell .own (.lst (List.map (eP (eT PyData.int) (eT PyData.int)) s21.1))), some (.d ((eT PyData.int) a20.1)), some (.d ((eT PyData.int) s21.2.1)), some (.d (PyData.int s21.2.2)), some (.d ((eL PyData.int) s30)), some (.d (PyData.int a33)), o32, none, none, none]) rfl (nc_cons rfl datO_none (nc_cons rfl datO_none nc_nil)) rfl ?_ ?_
          · intro a34
            refine ⟨[some (.d ((eT (eT PyData.int)) scale_)), some (.d ((eT PyData.int) sums_)), some (.d ((eL (eP (eT PyData.int) (eT PyData.int))) s3)), some (.d (PyData.int a12)), some (.cell .own (.lst (List.map (eP (eT PyData.int) (eT PyData.int)) s21.1))), some (.d ((eT PyData.int) a20.1)), some (.d ((eT PyData.int) s21.2.1)), some (.d (PyData.int s21.2.2)), some (.d ((eL PyData.int) s30)), some (.d (PyData.int a33)), o32, some (.d ((eT PyData.int) a34.2)), some (.d (PyData.int a34.1)), none], (bt_tup rfl (bt_cons (bn (e' := [some (.d ((eT (eT PyData.int)) scale_)), some (.d ((eT PyData.int) sums_)), some (.d ((eL (eP (eT PyData.int) (eT PyData.int))) s3)), some (.d (PyData.int a12)), some (.cell .own (.lst (List.map (eP (eT PyData.int) (eT PyData.int)) s21.1))), some (.d ((eT PyData.int) a20.1)), some (.d ((eT PyData.int) s21.2.1)), some (.d (PyData.int s21.2.2)), some (.d ((eL PyData.int) s30)), some (.d (PyData.int a33)), o32, none, some (.d (PyData.int a34.1)), none]) rfl okO_none rfl) (bt_cons (bn (e' := [some (.d ((eT (eT PyData.int)) scale_)), some (.d ((eT PyData.int) sums_)), some (.d ((eL (eP (eT PyData.int) (eT PyData.int))) s3)), some (.d (PyData.int a12)), some (.cell .own (.lst (List.map (eP (eT PyData.int) (eT PyData.int)) s21.1))), some (.d ((eT PyData.int) a20.1)), some (.d ((eT PyData.int) s21.2.1)), some (.d (PyData.int s21.2.2)), some (.d ((eL PyData.int) s30)), some (.d (PyData.int a33)), o32, some (.d ((eT PyData.int) a34.2)), some (.d (PyData.int a34.1)), none]) rfl okO_none rfl) bt_nil))), ?_⟩
            refine c_turn ?_
            refine c_tru ?_
            refine c_bin ?_
            refine c_bin ?_
            refine c_name rfl ?_
            refine c_name rfl ?_
            refine b_part (u := (eT PyData.int) a34.2) rfl rfl (ixS (e := PyData.int) (xs := a34.2) rfl) ?_
            intro it35
            refine c_const ?_
            refine b_pure rfl rfl rfl ?_
            refine tr_pure rfl rfl ?_
            refine ite_s (fun _ => ?_) (fun _ => ?_)
            · refine c_take ?_
              refine c_bin ?_
              refine c_name rfl ?_
              refine c_bin ?_
              refine c_name rfl ?_
              refine c_name rfl ?_
              refine b_part (u := (eT PyData.int) a34.2) rfl rfl (ixS (e := PyData.int) (xs := a34.2) rfl) ?_
              intro it36
              refine b_part rfl rfl divS ?_
              intro quo37
              refine t_pure rfl ?_
              exact sim_ret ⟨rfl, rfl⟩
            · exact sim_ret ⟨rfl, rfl⟩
          intro xs38
          refine c_pnil ?_
          refine cb_part (xs := [(eL PyData.int) xs38]) rfl (extS (xs := xs38) rfl) ?_
          intro min39
          refine as_d (e' := [some (.d ((eT (eT PyData.int)) scale_)), some (.d ((eT PyData.int) sums_)), some (.d ((eL (eP (eT PyData.int) (eT PyData.int))) s3)), some (.d (PyData.int a12)), some (.cell .own (.lst (List.map (eP (eT PyData.int) (eT PyData.int)) s21.1))), some (.d ((eT PyData.int) a20.1)), some (.d ((eT PyData.int) s21.2.1)), some (.d (PyData.int s21.2.2)), some (.d ((eL PyData.int) s30)), some (.d (PyData.int a33)), some (.d (PyData.int min39)), none, none, none]) rfl (datO.ok ho32) rfl ?_
          refine c_blk1 ?_
          refine c_frz ?_
          refine c_set ?_
          refine c_comp ?_
          refine c_zipM ?_
          refine c_cons ?_
          refine c_take ?_
          refine c_name rfl ?_
          refine t_pure rfl ?_
          refine c_cons ?_
          refine c_take ?_
          refine c_name rfl ?_
          refine t_pure rfl ?_
          refine c_nil ?_
          refine z_pure (e := PyData.int) (f := (eT PyData.int)) (xs := s30) (ys := scale_) rfl rfl ?_
          refine co_p (enc' := PyData.int) (el := [some (.d ((eT (eT PyData.int)) scale_)), some (.d ((eT PyData.int) sums_)), some (.d ((eL (eP (eT PyData.int) (eT PyData.int))) s3)), some (.d (PyData.int a12)), some (.cell .own (.lst (List.map (eP (eT PyData.int) (eT PyData.int)) s21.1))), some (.d ((eT PyData.int) a20.1)), some (.d ((eT PyData.int) s21.2.1)), some (.d (PyData.int s21.2.2)), some (.d ((eL PyData.int) s30)), some (.d (PyData.int a33)), some (.d (PyData.int min39)), none, none, none]) rfl (nc_cons rfl datO_none (nc_cons rfl datO_none nc_nil)) rfl ?_ ?_
          · intro a40
            refine ⟨[some (.d ((eT (eT PyData.int)) scale_)), some (.d ((eT PyData.int) sums_)), some (.d ((eL (eP (eT PyData.int) (eT PyData.int))) s3)), some (.d (PyData.int a12)), some (.cell .own (.lst (List.map (eP (eT PyData.int) (eT PyData.int)) s21.1))), some (.d ((eT PyData.int) a20.1)), some (.d ((eT PyData.int) s21.2.1)), some (.d (PyData.int s21.2.2)), some (.d ((eL PyData.int) s30)), some (.d (PyData.int a33)), some (.d (PyData.int min39)), some (.d ((eT PyData.int) a40.2)), some (.d (PyData.int a40.1)), none], (bt_tup rfl (bt_cons (bn (e' := [some (.d ((eT (eT PyData.int)) scale_)), some (.d ((eT PyData.int) sums_)), some (.d ((eL (eP (eT PyData.int) (eT PyData.int))) s3)), some (.d (PyData.int a12)), some (.cell .own (.lst (List.map (eP (eT PyData.int) (eT PyData.int)) s21.1))), some (.d ((eT PyData.int) a20.1)), some (.d ((eT PyData.int) s21.2.1)), some (.d (PyData.int s21.2.2)), some (.d ((eL PyData.int) s30)), some (.d (PyData.int a33)), some (.d (PyData.int min39)), none, some (.d (PyData.int a40.1)), none]) rfl okO_none rfl) (bt_cons (bn (e' := [some (.d ((eT (eT PyData.int)) scale_)), some (.d ((eT PyData.int) sums_)), some (.d ((eL (eP (eT PyData.int) (eT PyData.int))) s3)), some (.d (PyData.int a12)), some (.cell .own (.lst (List.map (eP (eT PyData.int) (eT PyData.int)) s21.1))), some (.d ((eT PyData.int) a20.1)), some (.d ((eT PyData.int) s21.2.1)), some (.d (PyData.int s21.2.2)), some (.d ((eL PyData.int) s30)), some (.d (PyData.int a33)), some (.d (PyData.int min39)), some (.d ((eT PyData.int) a40.2)), some (.d (PyData.int a40.1)), none]) rfl okO_none rfl) bt_nil))), ?_⟩
            refine c_turnY ?_
            refine c_take ?_
            refine c_bin ?_
            refine c_name rfl ?_
            refine c_bin ?_
            refine c_name rfl ?_
            refine c_bin ?_
            refine c_name rfl ?_
            refine c_name rfl ?_
            refine b_part (u := (eT PyData.int) a40.2) rfl rfl (ixS (e := PyData.int) (xs := a40.2) rfl) ?_
            intro it41
            refine b_part rfl rfl mulS ?_
            intro mul42
            refine b_pure rfl rfl rfl ?_
            refine t_pure rfl ?_
            exact sim_ret ⟨rfl, rfl⟩
          intro xs43
          refine as_t (e' := [some (.d ((eT (eT PyData.int)) scale_)), some (.d ((eT PyData.int) sums_)), some (.d ((eL (eP (eT PyData.int) (eT PyData.int))) s3)), some (.d (PyData.int a12)), some (.cell .own (.lst (List.map (eP (eT PyData.int) (eT PyData.int)) s21.1))), some (.d ((eT PyData.int) a20.1)), some (.d ((eT PyData.int) s21.2.1)), some (.d (PyData.int s21.2.2)), some (.cell .own (.lst (List.map PyData.int xs43))), some (.d (PyData.int a33)), some (.d (PyData.int min39)), none, none, none]) rfl okO_d rfl ?_
          refine fz_t (v := (eL PyData.int) xs43) (e' := [some (.d ((eT (eT PyData.int)) scale_)), some (.d ((eT PyData.int) sums_)), some (.d ((eL (eP (eT PyData.int) (eT PyData.int))) s3)), some (.d (PyData.int a12)), some (.cell .own (.lst (List.map (eP (eT PyData.int) (eT PyData.int)) s21.1))), some (.d ((eT PyData.int) a20.1)), some (.d ((eT PyData.int) s21.2.1)), some (.d (PyData.int s21.2.2)), some (.d ((eL PyData.int) xs43)), some (.d (PyData.int a33)), some (.d (PyData.int min39)), none, none, none]) rfl ?_
          refine c_end1 ?_
          exact sim_ret ⟨.inl rfl, ⟨_, _, datO_d, datO_d, rfl⟩⟩
        intro s30 e hK e' hu
        obtain ⟨o31, o32, ho31, ho32, he⟩ := hK
        obtain rfl : e' = [some (.d ((eT (eT PyData.int)) scale_)), some (.d ((eT PyData.int) sums_)), some (.d ((eL (eP (eT PyData.int) (eT PyData.int))) s3)), some (.d (PyData.int a12)), some (.cell .own (.lst (List.map (eP (eT PyData.int) (eT PyData.int)) s21.1))), some (.d ((eT PyData.int) a20.1)), some (.d ((eT PyData.int) s21.2.1)), some (.d (PyData.int s21.2.2)), some (.d ((eL PyData.int) s30)), o31, o32, none, none, none] := by rw [← hu, he]; rfl
        clear hu he
        refine c_blk1 ?_
        refine c_ifS ?_
        refine c_tru ?_
        refine c_bin ?_
        refine c_comp ?_
        refine c_zipM ?_
        refine c_cons ?_
        refine c_take ?_
        refine c_name rfl ?_
        refine t_pure rfl ?_
        refine c_cons ?_
        refine c_take ?_
        refine c_name rfl ?_
        refine t_pure rfl ?_
        refine c_nil ?_
        refine z_pure (e := PyData.int) (f := PyData.int) (xs := s21.2.1) (ys := s30) rfl rfl ?_
        refine co_t (enc' := PyData.int) (el := [some (.d ((eT (eT PyData.int)) scale_)), some (.d ((eT PyData.int) sums_)), some (.d ((eL (eP (eT PyData.int) (eT PyData.int))) s3)), some (.d (PyData.int a12)), some (.cell .own (.lst (List.map (eP (eT PyData.int) (eT PyData.int)) s21.1))), some (.d ((eT PyData.int) a20.1)), some (.d ((eT PyData.int) s21.2.1)), some (.d (PyData.int s21.2.2)), some (.d ((eL PyData.int) s30)), o31, o32, none, none, none]) (p := fun (a44 : Int × Int) => (decide (a44.2 < a44.1))) (f := fun (a44 : Int × Int) => (1 : Int)) rfl (nc_cons rfl datO_none (nc_cons rfl datO_none nc_nil)) rfl ?_ ?_
        · intro a44
          refine ⟨[some (.d ((eT (eT PyData.int)) scale_)), some (.d ((eT PyData.int) sums_)), some (.d ((eL (eP (eT PyData.int) (eT PyData.int))) s3)), some (.d (PyData.int a12)), some (.cell .own (.lst (List.map (eP (eT PyData.int) (eT PyData.int)) s21.1))), some (.d ((eT PyData.int) a20.1)), some (.d ((eT PyData.int) s21.2.1)), some (.d (PyData.int s21.2.2)), some (.d ((eL PyData.int) s30)), o31, o32, none, some (.d (PyData.int a44.1)), some (.d (PyData.int a44.2))], (bt_tup rfl (bt_cons (bn (e' := [some (.d ((eT (eT PyData.int)) scale_)), some (.d ((eT PyData.int) sums_)), some (.d ((eL (eP (eT PyData.int) (eT PyData.int))) s3)), some (.d (PyData.int a12)), some (.cell .own (.lst (List.map (eP (eT PyData.int) (eT PyData.int)) s21.1))), some (.d ((eT PyData.int) a20.1)), some (.d ((eT PyData.int) s21.2.1)), some (.d (PyData.int s21.2.2)), some (.d ((eL PyData.int) s30)), o31, o32, none, some (.d (PyData.int a44.1)), none]) rfl okO_none rfl) (bt_cons (bn (e' := [some (.d ((eT (eT PyData.int)) scale_)), some (.d ((eT PyData.int) sums_)), some (.d ((eL (eP (eT PyData.int) (eT PyData.int))) s3)), some (.d (PyData.int a12)), some (.cell .own (.lst (List.map (eP (eT PyData.int) (eT PyData.int)) s21.1))), some (.d ((eT PyData.int) a20.1)), some (.d ((eT PyData.int) s21.2.1)), some (.d (PyData.int s21.2.2)), some (.d ((eL PyData.int) s30)), o31, o32, none, some (.d (PyData.int a44.1)), some (.d (PyData.int a44.2))]) rfl okO_none rfl) bt_nil))), ?_⟩
          refine c_turn ?_
          refine c_tru ?_
          refine c_bin ?_
          refine c_name rfl ?_
          refine c_name rfl ?_
          refine b_pure rfl rfl rfl ?_
          refine tr_pure rfl rfl ?_
          refine ite_s (fun _ => ?_) (fun _ => ?_)
          · refine c_take ?_
            refine c_const ?_
            refine t_pure rfl ?_
            exact sim_ret ⟨rfl, rfl⟩
          · exact sim_ret ⟨rfl, rfl⟩
        intro xs45
        refine c_lst ?_
        refine c_nil ?_
        refine ls_pure (ys := List.map PyData.int ([] : List Int)) rfl rfl ?_
        refine b_pure (u := (eL PyData.int) xs45) (v := (eL PyData.int) ([] : List Int)) rfl rfl (eq_t (EqT.L EqT.I) (by decide)) ?_
        refine tr_pure rfl rfl ?_
        refine sim_bind (k1 := fun (s46 : (List ((List Int) × (List Int)))) (fl : Fl) (e : SE) => fl = .nx ∧ e = [some (.d ((eT (eT PyData.int)) scale_)), some (.d ((eT PyData.int) sums_)), some (.d ((eL (eP (eT PyData.int) (eT PyData.int))) s3)), some (.d (PyData.int a12)), some (.cell .own (.lst (List.map (eP (eT PyData.int) (eT PyData.int)) s46))), some (.d ((eT PyData.int) a20.1)), some (.d ((eT PyData.int) s21.2.1)), some (.d (PyData.int s21.2.2)), some (.d ((eL PyData.int) s30)), o31, o32, none, none, none]) (ite_s (fun _ => ?_) (fun _ => ?_)) ?_
        · refine sim_bnd0 ?_
          refine c_blk ?_
          refine c_expr ?_
          refine c_meth rfl ?_
          refine c_take ?_
          refine c_tup ?_
          refine c_cons ?_
          refine c_take ?_
          refine c_bin ?_
          refine c_name rfl ?_
          refine c_tup ?_
          refine c_cons ?_
          refine c_take ?_
          refine c_name rfl ?_
          refine t_pure rfl ?_
          refine c_nil ?_
          refine tu_pure (v := (eT PyData.int) [s21.2.2]) rfl rfl ?_
          refine b_part (u := (eT PyData.int) a20.1) (v := (eT PyData.int) [s21.2.2]) rfl rfl (catT (e := PyData.int)) ?_
          intro cat47
          refine t_pure rfl ?_
          refine c_cons ?_
          refine c_take ?_
          refine c_name rfl ?_
          refine t_pure rfl ?_
          refine c_nil ?_
          refine tu_pure (v := (eP (eT PyData.int) (eT PyData.int)) (cat47, s21.2.1)) rfl rfl ?_
          refine t_pure rfl ?_
          refine me_app (e := (eP (eT PyData.int) (eT PyData.int))) (e2 := fun ys48 => [some (.d ((eT (eT PyData.int)) scale_)), some (.d ((eT PyData.int) sums_)), some (.d ((eL (eP (eT PyData.int) (eT PyData.int))) s3)), some (.d (PyData.int a12)), some (.cell .own (.lst (List.map (eP (eT PyData.int) (eT PyData.int)) ys48))), some (.d ((eT PyData.int) a20.1)), some (.d ((eT PyData.int) s21.2.1)), some (.d (PyData.int s21.2.2)), some (.d ((eL PyData.int) s30)), o31, o32, none, none, none]) rfl rfl (fun _ => rfl) ?_
          intro ys48
          refine c_end1 ?_
          exact sim_ret ⟨rfl, rfl⟩
        · refine sim_bnd0 ?_
          refine c_end ?_
          exact sim_ret ⟨rfl, rfl⟩
        rintro s46 fl e ⟨rfl, rfl⟩
        refine c_blk1 ?_
        refine c_set ?_
        refine c_call ?_
        refine c_pcons ?_
        refine c_comp ?_
        refine c_zipM ?_
        refine c_cons ?_
        refine c_take ?_
        refine c_name rfl ?_
        refine t_pure rfl ?_
        refine c_cons ?_
        refine c_take ?_
        refine c_name rfl ?_
        refine t_pure rfl ?_
        refine c_nil ?_
        refine z_pure (e := PyData.int) (f := (eT PyData.int)) (xs := s21.2.1) (ys := scale_) rfl rfl ?_
        refine co_p (enc' := PyData.int) (el := [some (.d ((eT (eT PyData.int)) scale_)), some (.d ((eT PyData.int) sums_)), some (.d ((eL (eP (eT PyData.int) (eT PyData.int))) s3)), some (.d (PyData.int a12)), some (.cell .own (.lst (List.map (eP (eT PyData.int) (eT PyData.int)) s46))), some (.d ((eT PyData.int) a20.1)), some (.d ((eT PyData.int) s21.2.1)), some (.d (PyData.int s21.2.2)), some (.d ((eL PyData.int) s30)), o31, o32, none, none, none]) rfl (nc_cons rfl datO_none (nc_cons rfl datO_none nc_nil)) rfl ?_ ?_
        · intro a49
          refine ⟨[some (.d ((eT (eT PyData.int)) scale_)), some (.d ((eT PyData.int) sums_)), some (.d ((eL (eP (eT PyData.int) (eT PyData.int))) s3)), some (.d (PyData.int a12)), some (.cell .own (.lst (List.map (eP (eT PyData.int) (eT PyData.int)) s46))), some (.d ((eT PyData.int) a20.1)), some (.d ((eT PyData.int) s21.2.1)), some (.d (PyData.int s21.2.2)), some (.d ((eL PyData.int) s30)), o31, o32, some (.d ((eT PyData.int) a49.2)), some (.d (PyData.int a49.1)), none], (bt_tup rfl (bt_cons (bn (e' := [some (.d ((eT (eT PyData.int)) scale_)), some (.d ((eT PyData.int) sums_)), some (.d ((eL (eP (eT PyData.int) (eT PyData.int))) s3)), some (.d (PyData.int a12)), some (.cell .own (.lst (List.map (eP (eT PyData.int) (eT PyData.int)) s46))), some (.d ((eT PyData.int) a20.1)), some (.d ((eT PyData.int) s21.2.1)), some (.d (PyData.int s21.2.2)), some (.d ((eL PyData.int) s30)), o31, o32, none, some (.d (PyData.int a49.1)), none]) rfl okO_none rfl) (bt_cons (bn (e' := [some (.d ((eT (eT PyData.int)) scale_)), some (.d ((eT PyData.int) sums_)), some (.d ((eL (eP (eT PyData.int) (eT PyData.int))) s3)), some (.d (PyData.int a12)), some (.cell .own (.lst (List.map (eP (eT PyData.int) (eT PyData.int)) s46))), some (.d ((eT PyData.int) a20.1)), some (.d ((eT PyData.int) s21.2.1)), some (.d (PyData.int s21.2.2)), some (.d ((eL PyData.int) s30)), o31, o32, some (.d ((eT PyData.int) a49.2)), some (.d (PyData.int a49.1)), none]) rfl okO_none rfl) bt_nil))), ?_⟩
          refine c_turnY ?_
          refine c_take ?_
          refine c_bin ?_
          refine c_name rfl ?_
          refine c_bin ?_
          refine c_name rfl ?_
          refine c_name rfl ?_
          refine b_part (u := (eT PyData.int) a49.2) rfl rfl (ixS (e := PyData.int) (xs := a49.2) rfl) ?_
          intro it50
          refine b_pure rfl rfl rfl ?_
          refine t_pure rfl ?_
          exact sim_ret ⟨rfl, rfl⟩
        intro xs51
        refine c_pnil ?_
        refine cb_pure (r := .d (eT PyData.int xs51)) rfl rfl ?_
        refine as_d (e' := [some (.d ((eT (eT PyData.int)) scale_)), some (.d ((eT PyData.int) sums_)), some (.d ((eL (eP (eT PyData.int) (eT PyData.int))) s3)), some (.d (PyData.int a12)), some (.cell .own (.lst (List.map (eP (eT PyData.int) (eT PyData.int)) s46))), some (.d ((eT PyData.int) a20.1)), some (.d ((eT PyData.int) xs51)), some (.d (PyData.int s21.2.2)), some (.d ((eL PyData.int) s30)), o31, o32, none, none, none]) rfl okO_d rfl ?_
        refine c_blk1 ?_
        refine c_set ?_
        refine c_bin ?_
        refine c_name rfl ?_
        refine c_const ?_
        refine b_pure rfl rfl rfl ?_
        refine as_d (e' := [some (.d ((eT (eT PyData.int)) scale_)), some (.d ((eT PyData.int) sums_)), some (.d ((eL (eP (eT PyData.int) (eT PyData.int))) s3)), some (.d (PyData.int a12)), some (.cell .own (.lst (List.map (eP (eT PyData.int) (eT PyData.int)) s46))), some (.d ((eT PyData.int) a20.1)), some (.d ((eT PyData.int) xs51)), some (.d (PyData.int (s21.2.2 + (1 : Int)))), some (.d ((eL PyData.int) s30)), o31, o32, none, none, none]) rfl okO_d rfl ?_
        refine c_end1 ?_
        exact sim_ret ⟨.inl rfl, ⟨_, _, _, datO_d, ho31, ho32, rfl⟩⟩
      intro s21 e hK
      obtain ⟨o22, o23, o24, ho22, ho23, ho24, he⟩ := hK
      subst he
      refine c_end1 ?_
      exact sim_ret ⟨.inl rfl, ⟨_, _, _, _, _, _, datO_d, datO_d, datO_d, ho22, ho23, ho24, rfl⟩⟩
    intro s13 e hK e' hu
    obtain ⟨o14, o15, o16, o17, o18, o19, ho14, ho15, ho16, ho17, ho18, ho19, he⟩ := hK
    obtain rfl : e' = [some (.d ((eT (eT PyData.int)) scale_)), some (.d ((eT PyData.int) sums_)), some (.d ((eL (eP (eT PyData.int) (eT PyData.int))) s3)), some (.d (PyData.int a12)), some (.cell .own (.lst (List.map (eP (eT PyData.int) (eT PyData.int)) s13))), o14, o15, o16, o17, o18, o19, none, none, none] := by rw [← hu, he]; rfl
    clear hu he
    refine c_blk1 ?_
    refine c_frz ?_
    refine c_set ?_
    refine c_call ?_
    refine c_pcons ?_
    refine c_cell rfl ?_
    refine c_pnil ?_
    refine cb_pure (r := .tmp (.lst (List.map (eP (eT PyData.int) (eT PyData.int)) s13))) rfl rfl ?_
    refine as_t (e' := [some (.d ((eT (eT PyData.int)) scale_)), some (.d ((eT PyData.int) sums_)), some (.cell .own (.lst (List.map (eP (eT PyData.int) (eT PyData.int)) s13))), some (.d (PyData.int a12)), some (.cell .own (.lst (List.map (eP (eT PyData.int) (eT PyData.int)) s13))), o14, o15, o16, o17, o18, o19, none, none, none]) rfl okO_d rfl ?_
    refine fz_t (v := (eL (eP (eT PyData.int) (eT PyData.int))) s13) (e' := [some (.d ((eT (eT PyData.int)) scale_)), some (.d ((eT PyData.int) sums_)), some (.d ((eL (eP (eT PyData.int) (eT PyData.int))) s13)), some (.d (PyData.int a12)), some (.cell .own (.lst (List.map (eP (eT PyData.int) (eT PyData.int)) s13))), o14, o15, o16, o17, o18, o19, none, none, none]) rfl ?_
    refine c_end1 ?_
    exact sim_ret ⟨.inl rfl, ⟨_, _, _, _, _, _, _, _, datO_d, okO_own, ho14, ho15, ho16, ho17, ho18, ho19, rfl⟩⟩
  intro s3 e hK e' hu
  obtain ⟨o4, o5, o6, o7, o8, o9, o10, o11, ho4, ho5, ho6, ho7, ho8, ho9, ho10, ho11, he⟩ := hK
  obtain rfl : e' = [some (.d ((eT (eT PyData.int)) scale_)), some (.d ((eT PyData.int) sums_)), some (.d ((eL (eP (eT PyData.int) (eT PyData.int))) s3)), o4, o5, o6, o7, o8, o9, o10, o11, none, none, none] := by rw [← hu, he]; rfl
  clear hu he
  refine c_blk1 ?_
  refine c_ret ?_
  refine c_comp ?_
  refine c_seq ?_
  refine c_name rfl ?_
  refine sq_L (ds := List.map (eP (eT PyData.int) (eT PyData.int)) s3) (lk := []) rfl rfl ?_
  refine co_m (enc' := (eT PyData.int)) (el := [some (.d ((eT (eT PyData.int)) scale_)), some (.d ((eT PyData.int) sums_)), some (.d ((eL (eP (eT PyData.int) (eT PyData.int))) s3)), o4, o5, o6, o7, o8, o9, o10, o11, none, none, none]) rfl (nc_cons rfl ho6 (nc_cons rfl ho7 nc_nil)) rfl ?_ ?_
  · intro a52
    refine ⟨[some (.d ((eT (eT PyData.int)) scale_)), some (.d ((eT PyData.int) sums_)), some (.d ((eL (eP (eT PyData.int) (eT PyData.int))) s3)), o4, o5, some (.d ((eT PyData.int) a52.1)), some (.d ((eT PyData.int) a52.2)), o8, o9, o10, o11, none, none, none], (bt_tup rfl (bt_cons (bn (e' := [some (.d ((eT (eT PyData.int)) scale_)), some (.d ((eT PyData.int) sums_)), some (.d ((eL (eP (eT PyData.int) (eT PyData.int))) s3)), o4, o5, some (.d ((eT PyData.int) a52.1)), none, o8, o9, o10, o11, none, none, none]) rfl okO_none rfl) (bt_cons (bn (e' := [some (.d ((eT (eT PyData.int)) scale_)), some (.d ((eT PyData.int) sums_)), some (.d ((eL (eP (eT PyData.int) (eT PyData.int))) s3)), o4, o5, some (.d ((eT PyData.int) a52.1)), some (.d ((eT PyData.int) a52.2)), o8, o9, o10, o11, none, none, none]) rfl okO_none rfl) bt_nil))), ?_⟩
    refine c_turnY ?_
    refine c_take ?_
    refine c_name rfl ?_
    refine t_pure rfl ?_
    exact sim_ret ⟨rfl, rfl⟩
  intro xs53
  refine rt_t ?_
  exact sim_ret ⟨.inl rfl, rfl⟩
def S_law_pick {α : Type} (deck_ : List Int) (items_ : List α) : M (α × (List Int)) :=
  S_law_draw deck_ ((items_).length : Int) >>= fun r1 =>
  ixM items_ r1.1 >>= fun it2 =>
  .ok (it2, r1.2)
theorem L_law_pick {α : Type} (eα : α → PyData) (deck_ : List Int) (items_ : List α) : FSim (F_law_pick [.bor (.lst (List.map PyData.int deck_)), .d ((eL eα) items_)]) (S_law_pick deck_ items_) (fun (r : α × (List Int)) => Ret.d (eα r.1)) (fun (r : α × (List Int)) => [.bor (.lst (List.map PyData.int r.2)), .d ((eL eα) items_)]) := by
  refine fs_mk ?_
  unfold S_law_pick
  refine sim_bnd0 ?_
  have e0 : envOf 2 [.bor (.lst (List.map PyData.int deck_)), .d ((eL eα) items_)] = [some (.cell .bor (.lst (List.map PyData.int deck_))), some (.d ((eL eα) items_))] := rfl
  rw [e0]
  unfold f_law_pick
  refine c_blk ?_
  refine c_ret ?_
  refine c_bin ?_
  refine c_name rfl ?_
  refine c_callF ?_
  refine c_aref rfl ?_
  refine c_adat ?_
  refine c_take ?_
  refine c_call ?_
  refine c_pcons ?_
  refine c_name rfl ?_
  refine c_pnil ?_
  refine cb_pure (xs := [(eL eα) items_]) rfl lenL ?_
  refine t_pure rfl ?_
  refine c_anil ?_
  refine cf_s (e2 := fun r1 => [some (.cell .bor (.lst (List.map PyData.int r1.2))), some (.d ((eL eα) items_))]) (L_law_draw deck_ ((items_).length : Int)) (show List.Nodup ([0] : List Nat) by decide) rfl rfl (fun _ => rfl) (fun _ => trivial) ?_
  intro r1
  refine b_part (u := (eL eα) items_) rfl rfl (ixS (e := eα) (xs := items_) rfl) ?_
  intro it2
  refine rt_d ?_
  exact sim_ret ⟨.inl rfl, rfl⟩
def S_law_book (deck_ : List Int) (scale_ : List (List Int)) (many_ : Int) : M ((List ((List Int) × (List Int))) × (List Int)) :=
  ixM scale_ (0 : Int) >>= fun it1 =>
  ixM [(40 : Int), (36 : Int), (20 : Int), (12 : Int), (12 : Int), (12 : Int)] (((it1).length : Int) - (1 : Int)) >>= fun it2 =>
  range1M many_ >>= fun rng3 =>
  forM' (fun (a9 : Int) (s4 : (List Int) × (List ((List Int) × (List Int)))) =>
  S_law_heap s4.1 scale_ it2 >>= fun r10 =>
  S_law_sums scale_ r10.1 >>= fun r11 =>
  S_law_lot scale_ r11 >>= fun r12 =>
  S_law_pick r10.2 r12 >>= fun r13 =>
  S_law_pick r13.2 r12 >>= fun r14 =>
  (if ((!eqD r13.1 r14.1) && ((!memD (r13.1, r14.1) s4.2) && (!memD (r14.1, r13.1) s4.2))) = true then (appM s4.2 (r13.1, r14.1) >>= fun ys16 =>
  .ok ys16) else (.ok s4.2)) >>= fun s15 =>
  .ok (r14.2, s15)) rng3 (deck_, ([] : List ((List Int) × (List Int)))) >>= fun s4 =>
  .ok (s4.2, s4.1)
theorem L_law_book (deck_ : List Int) (scale_ : List (List Int)) (many_ : Int) : FSim (F_law_book [.bor (.lst (List.map PyData.int deck_)), .d ((eT (eT PyData.int)) scale_), .d (PyData.int many_)]) (S_law_book deck_ scale_ many_) (fun (r : (List ((List Int) × (List Int))) × (List Int)) => Ret.d ((eT (eP (eT PyData.int) (eT PyData.int))) r.1)) (fun (r : (List ((List Int) × (List Int))) × (List Int)) => [.bor (.lst (List.map PyData.int r.2)), .d ((eT (eT PyData.int)) scale_), .d (PyData.int many_)]) := by
  refine fs_mk ?_
  unfold S_law_book
  refine sim_bnd0 ?_
  have e0 : envOf 9 [.bor (.lst (List.map PyData.int deck_)), .d ((eT (eT PyData.int)) scale_), .d (PyData.int many_)] = [some (.cell .bor (.lst (List.map PyData.int deck_))), some (.d ((eT (eT PyData.int)) scale_)), some (.d (PyData.int many_)), none, none, none, none, none, none] := rfl
  rw [e0]
  unfold f_law_book
  refine c_blk ?_
  refine c_frz ?_
  refine c_par ?_
  refine c_pcons ?_
  refine c_lst ?_
  refine c_nil ?_
  refine ls_pure (ys := List.map (eP (eT PyData.int) (eT PyData.int)) ([] : List ((List Int) × (List Int)))) rfl rfl ?_
  refine c_pcons ?_
  refine c_bin ?_
  refine c_lst ?_
  refine c_cons ?_
  refine c_take ?_
  refine c_const ?_
  refine t_pure rfl ?_
  refine c_cons ?_
  refine c_take ?_
  refine c_const ?_
  refine t_pure rfl ?_
  refine c_cons ?_
  refine c_take ?_
  refine c_const ?_
  refine t_pure rfl ?_
  refine c_cons ?_
  refine c_take ?_
  refine c_const ?_
  refine t_pure rfl ?_
  refine c_cons ?_
  refine c_take ?_
  refine c_const ?_
  refine t_pure rfl ?_
  refine c_cons ?_
  refine c_take ?_
  refine c_const ?_
  refine t_pure rfl ?_
  refine c_nil ?_
  refine ls_pure (ys := List.map PyData.int [(40 : Int), (36 : Int), (20 : Int), (12 : Int), (12 : Int), (12 : Int)]) rfl rfl ?_
  refine c_bin ?_
  refine c_call ?_
  refine c_pcons ?_
  refine c_bin ?_
  refine c_name rfl ?_
  refine c_const ?_
  refine b_part (u := (eT (eT PyData.int)) scale_) rfl rfl (ixS (e := (eT PyData.int)) (xs := scale_) rfl) ?_
  intro it1
  refine c_pnil ?_
  refine cb_pure (xs := [(eT PyData.int) it1]) rfl lenT ?_
  refine c_const ?_
  refine b_pure rfl rfl rfl ?_
  refine b_part (u := (eL PyData.int) [(40 : Int), (36 : Int), (20 : Int), (12 : Int), (12 : Int), (12 : Int)]) rfl rfl (ixS (e := PyData.int) (xs := [(40 : Int), (36 : Int), (20 : Int), (12 : Int), (12 : Int), (12 : Int)]) rfl) ?_
  intro it2
  refine c_pnil ?_
  refine pa_t (e1 := [some (.cell .bor (.lst (List.map PyData.int deck_))), some (.d ((eT (eT PyData.int)) scale_)), some (.d (PyData.int many_)), some (.cell .own (.lst (List.map (eP (eT PyData.int) (eT PyData.int)) ([] : List ((List Int) × (List Int)))))), none, none, none, none, none]) (e2 := [some (.cell .bor (.lst (List.map PyData.int deck_))), some (.d ((eT (eT PyData.int)) scale_)), some (.d (PyData.int many_)), some (.cell .own (.lst (List.map (eP (eT PyData.int) (eT PyData.int)) ([] : List ((List Int) × (List Int)))))), some (.d (PyData.int it2)), none, none, none, none]) rfl rfl rfl rfl (setS_ok rfl okO_none rfl) (setS_ok rfl okO_none rfl) ?_
  refine fz_t (v := PyData.int it2) (e' := [some (.cell .bor (.lst (List.map PyData.int deck_))), some (.d ((eT (eT PyData.int)) scale_)), some (.d (PyData.int many_)), some (.cell .own (.lst (List.map (eP (eT PyData.int) (eT PyData.int)) ([] : List ((List Int) × (List Int)))))), some (.d (PyData.int it2)), none, none, none, none]) rfl ?_
  refine c_blk1 ?_
  refine c_for ?_
  refine c_rng1 ?_
  refine c_pcons ?_
  refine c_name rfl ?_
  refine c_pnil ?_
  refine r1_part rfl ?_
  intro rng3
  refine fo_n (fun (s4 : (List Int) × (List ((List Int) × (List Int)))) (e : SE) => ∃ (o5 : Option MV), ∃ (o6 : Option MV), ∃ (o7 : Option MV), ∃ (o8 : Option MV), datO o5 ∧ datO o6 ∧ datO o7 ∧ datO o8 ∧ e = [some (.cell .bor (.lst (List.map PyData.int s4.1))), some (.d ((eT (eT PyData.int)) scale_)), some (.d (PyData.int many_)), some (.cell .own (.lst (List.map (eP (eT PyData.int) (eT PyData.int)) s4.2))), some (.d (PyData.int it2)), o5, o6, o7, o8]) ⟨_, _, _, _, datO_none, datO_none, datO_none, datO_none, rfl⟩ (fun _ _ => trivial) ?_ ?_
  · intro a9 s4 e hK
    obtain ⟨o5, o6, o7, o8, ho5, ho6, ho7, ho8, he⟩ := hK
    subst he
    refine ⟨[some (.cell .bor (.lst (List.map PyData.int s4.1))), some (.d ((eT (eT PyData.int)) scale_)), some (.d (PyData.int many_)), some (.cell .own (.lst (List.map (eP (eT PyData.int) (eT PyData.int)) s4.2))), some (.d (PyData.int it2)), some (.d (PyData.int a9)), o6, o7, o8], (bn (e' := [some (.cell .bor (.lst (List.map PyData.int s4.1))), some (.d ((eT (eT PyData.int)) scale_)), some (.d (PyData.int many_)), some (.cell .own (.lst (List.map (eP (eT PyData.int) (eT PyData.int)) s4.2))), some (.d (PyData.int it2)), some (.d (PyData.int a9)), o6, o7, o8]) rfl (datO.ok ho5) rfl), ?_⟩
    refine sim_bnd0 ?_
    refine c_blk ?_
    refine c_frz ?_
    refine c_set ?_
    refine c_callF ?_
    refine c_adat ?_
    refine c_take ?_
    refine c_name rfl ?_
    refine t_pure rfl ?_
    refine c_adat ?_
    refine c_take ?_
    refine c_callF ?_
    refine c_adat ?_
    refine c_take ?_
    refine c_name rfl ?_
    refine t_pure rfl ?_
    refine c_adat ?_
    refine c_take ?_
    refine c_callF ?_
    refine c_aref rfl ?_
    refine c_adat ?_
    refine c_take ?_
    refine c_name rfl ?_
    refine t_pure rfl ?_
    refine c_adat ?_
    refine c_take ?_
    refine c_name rfl ?_
    refine t_pure rfl ?_
    refine c_anil ?_
    refine cf_s (e2 := fun r10 => [some (.cell .bor (.lst (List.map PyData.int r10.2))), some (.d ((eT (eT PyData.int)) scale_)), some (.d (PyData.int many_)), some (.cell .own (.lst (List.map (eP (eT PyData.int) (eT PyData.int)) s4.2))), some (.d (PyData.int it2)), some (.d (PyData.int a9)), o6, o7, o8]) (L_law_heap s4.1 scale_ it2) (show List.Nodup ([0] : List Nat) by decide) rfl rfl (fun _ => rfl) (fun _ => trivial) ?_
    intro r10
    refine t_pure rfl ?_
    refine c_anil ?_
    refine cf_s (e2 := fun r11 => [some (.cell .bor (.lst (List.map PyData.int r10.2))), some (.d ((eT (eT PyData.int)) scale_)), some (.d (PyData.int many_)), some (.cell .own (.lst (List.map (eP (eT PyData.int) (eT PyData.int)) s4.2))), some (.d (PyData.int it2)), some (.d (PyData.int a9)), o6, o7, o8]) (L_law_sums_2 scale_ r10.1) (show List.Nodup ([] : List Nat) by decide) rfl rfl (fun _ => rfl) (fun _ => trivial) ?_
    intro r11
    refine t_pure rfl ?_
    refine c_anil ?_
    refine cf_s (e2 := fun r12 => [some (.cell .bor (.lst (List.map PyData.int r10.2))), some (.d ((eT (eT PyData.int)) scale_)), some (.d (PyData.int many_)), some (.cell .own (.lst (List.map (eP (eT PyData.int) (eT PyData.int)) s4.2))), some (.d (PyData.int it2)), some (.d (PyData.int a9)), o6, o7, o8]) (L_law_lot scale_ r11) (show List.Nodup ([] : List Nat) by decide) rfl rfl (fun _ => rfl) (fun _ => trivial) ?_
    intro r12
    refine as_t (e' := [some (.cell .bor (.lst (List.map PyData.int r10.2))), some (.d ((eT (eT PyData.int)) scale_)), some (.d (PyData.int many_)), some (.cell .own (.lst (List.map (eP (eT PyData.int) (eT PyData.int)) s4.2))), some (.d (PyData.int it2)), some (.d (PyData.int a9)), some (.cell .own (.lst (List.map (eT PyData.int) r12))), o7, o8]) rfl (datO.ok ho6) rfl ?_
    refine fz_t (v := (eL (eT PyData.int)) r12) (e' := [some (.cell .bor (.lst (List.map PyData.int r10.2))), some (.d ((eT (eT PyData.int)) scale_)), some (.d (PyData.int many_)), some (.cell .own (.lst (List.map (eP (eT PyData.int) (eT PyData.int)) s4.2))), some (.d (PyData.int it2)), some (.d (PyData.int a9)), some (.d ((eL (eT PyData.int)) r12)), o7, o8]) rfl ?_
    refine c_blk1 ?_
    refine c_frz ?_
    refine c_frz ?_
    refine c_par ?_
    refine c_pcons ?_
    refine c_callF ?_
    refine c_aref rfl ?_
    refine c_adat ?_
    refine c_take ?_
    refine c_name rfl ?_
    refine t_pure rfl ?_
    refine c_anil ?_
    refine cf_s (e2 := fun r13 => [some (.cell .bor (.lst (List.map PyData.int r13.2))), some (.d ((eT (eT PyData.int)) scale_)), some (.d (PyData.int many_)), some (.cell .own (.lst (List.map (eP (eT PyData.int) (eT PyData.int)) s4.2))), some (.d (PyData.int it2)), some (.d (PyData.int a9)), some (.d ((eL (eT PyData.int)) r12)), o7, o8]) (L_law_pick (eT PyData.int) r10.2 r12) (show List.Nodup ([0] : List Nat) by decide) rfl rfl (fun _ => rfl) (fun _ => trivial) ?_
    intro r13
    refine c_pcons ?_
    refine c_callF ?_
    refine c_aref rfl ?_
    refine c_adat ?_
    refine c_take ?_
    refine c_name rfl ?_
    refine t_pure rfl ?_
    refine c_anil ?_
    refine cf_s (e2 := fun r14 => [some (.cell .bor (.lst (List.map PyData.int r14.2))), some (.d ((eT (eT PyData.int)) scale_)), some (.d (PyData.int many_)), some (.cell .own (.lst (List.map (eP (eT PyData.int) (eT PyData.int)) s4.2))), some (.d (PyData.int it2)), some (.d (PyData.int a9)), some (.d ((eL (eT PyData.int)) r12)), o7, o8]) (L_law_pick (eT PyData.int) r13.2 r12) (show List.Nodup ([0] : List Nat) by decide) rfl rfl (fun _ => rfl) (fun _ => trivial) ?_
    intro r14
    refine c_pnil ?_
    refine pa_t (e1 := [some (.cell .bor (.lst (List.map PyData.int r14.2))), some (.d ((eT (eT PyData.int)) scale_)), some (.d (PyData.int many_)), some (.cell .own (.lst (List.map (eP (eT PyData.int) (eT PyData.int)) s4.2))), some (.d (PyData.int it2)), some (.d (PyData.int a9)), some (.d ((eL (eT PyData.int)) r12)), some (.d ((eT PyData.int) r13.1)), o8]) (e2 := [some (.cell .bor (.lst (List.map PyData.int r14.2))), some (.d ((eT (eT PyData.int)) scale_)), some (.d (PyData.int many_)), some (.cell .own (.lst (List.map (eP (eT PyData.int) (eT PyData.int)) s4.2))), some (.d (PyData.int it2)), some (.d (PyData.int a9)), some (.d ((eL (eT PyData.int)) r12)), some (.d ((eT PyData.int) r13.1)), some (.d ((eT PyData.int) r14.1))]) rfl rfl rfl rfl (setS_ok rfl (datO.ok ho7) rfl) (setS_ok rfl (datO.ok ho8) rfl) ?_
    refine fz_t (v := (eT PyData.int) r13.1) (e' := [some (.cell .bor (.lst (List.map PyData.int r14.2))), some (.d ((eT (eT PyData.int)) scale_)), some (.d (PyData.int many_)), some (.cell .own (.lst (List.map (eP (eT PyData.int) (eT PyData.int)) s4.2))), some (.d (PyData.int it2)), some (.d (PyData.int a9)), some (.d ((eL (eT PyData.int)) r12)), some (.d ((eT PyData.int) r13.1)), some (.d ((eT PyData.int) r14.1))]) rfl ?_
    refine fz_t (v := (eT PyData.int) r14.1) (e' := [some (.cell .bor (.lst (List.map PyData.int r14.2))), some (.d ((eT (eT PyData.int)) scale_)), some (.d (PyData.int many_)), some (.cell .own (.lst (List.map (eP (eT PyData.int) (eT PyData.int)) s4.2))), some (.d (PyData.int it2)), some (.d (PyData.int a9)), some (.d ((eL (eT PyData.int)) r12)), some (.d ((eT PyData.int) r13.1)), some (.d ((eT PyData.int) r14.1))]) rfl ?_
    refine c_blk1 ?_
    refine c_ifS ?_
    refine c_and ?_
    refine c_tru ?_
    refine c_bin ?_
    refine c_name rfl ?_
    refine c_name rfl ?_
    refine b_pure (u := (eT PyData.int) r13.1) (v := (eT PyData.int) r14.1) rfl rfl (ne_t (EqT.T EqT.I) (by decide)) ?_
    refine tr_pure rfl rfl ?_
    refine and_p (t := ((!memD (r13.1, r14.1) s4.2) && (!memD (r14.1, r13.1) s4.2))) ?_ ?_
    · refine sim_bnd0 ?_
      refine c_and ?_
      refine c_tru ?_
      refine c_bin ?_
      refine c_tup ?_
      refine c_cons ?_
      refine c_take ?_
      refine c_name rfl ?_
      refine t_pure rfl ?_
      refine c_cons ?_
      refine c_take ?_
      refine c_name rfl ?_
      refine t_pure rfl ?_
      refine c_nil ?_
      refine tu_pure (v := (eP (eT PyData.int) (eT PyData.int)) (r13.1, r14.1)) rfl rfl ?_
      refine c_cell rfl ?_
      refine b_pure (u := (eP (eT PyData.int) (eT PyData.int)) (r13.1, r14.1)) (v := (eL (eP (eT PyData.int) (eT PyData.int))) s4.2) rfl rfl (notin_t (EqT.P (EqT.T EqT.I) (EqT.T EqT.I)) (by decide) (.inr rfl)) ?_
      refine tr_pure rfl rfl ?_
      refine and_p (t := (!memD (r14.1, r13.1) s4.2)) ?_ ?_
      · refine sim_bnd0 ?_
        refine c_tru ?_
        refine c_bin ?_
        refine c_tup ?_
        refine c_cons ?_
        refine c_take ?_
        refine c_name rfl ?_
        refine t_pure rfl ?_
        refine c_cons ?_
        refine c_take ?_
        refine c_name rfl ?_
        refine t_pure rfl ?_
        refine c_nil ?_
        refine tu_pure (v := (eP (eT PyData.int) (eT PyData.int)) (r14.1, r13.1)) rfl rfl ?_
        refine c_cell rfl ?_
        refine b_pure (u := (eP (eT PyData.int) (eT PyData.int)) (r14.1, r13.1)) (v := (eL (eP (eT PyData.int) (eT PyData.int))) s4.2) rfl rfl (notin_t (EqT.P (EqT.T EqT.I) (EqT.T EqT.I)) (by decide) (.inr rfl)) ?_
        refine tr_pure rfl rfl ?_
        exact sim_ret ⟨rfl, rfl⟩
      exact sim_ret ⟨rfl, rfl⟩
    refine sim_bind (k1 := fun (s15 : (List ((List Int) × (List Int)))) (fl : Fl) (e : SE) => fl = .nx ∧ e = [some (.cell .bor (.lst (List.map PyData.int r14.2))), some (.d ((eT (eT PyData.int)) scale_)), some (.d (PyData.int many_)), some (.cell .own (.lst (List.map (eP (eT PyData.int) (eT PyData.int)) s15))), some (.d (PyData.int it2)), some (.d (PyData.int a9)), some (.d ((eL (eT PyData.int)) r12)), some (.d ((eT PyData.int) r13.1)), some (.d ((eT PyData.int) r14.1))]) (ite_s (fun _ => ?_) (fun _ => ?_)) ?_
    · refine sim_bnd0 ?_
      refine c_blk ?_
      refine c_expr ?_
      refine c_meth rfl ?_
      refine c_take ?_
      refine c_tup ?_
      refine c_cons ?_
      refine c_take ?_
      refine c_name rfl ?_
      refine t_pure rfl ?_
      refine c_cons ?_
      refine c_take ?_
      refine c_name rfl ?_
      refine t_pure rfl ?_
      refine c_nil ?_
      refine tu_pure (v := (eP (eT PyData.int) (eT PyData.int)) (r13.1, r14.1)) rfl rfl ?_
      refine t_pure rfl ?_
      refine me_app (e := (eP (eT PyData.int) (eT PyData.int))) (e2 := fun ys16 => [some (.cell .bor (.lst (List.map PyData.int r14.2))), some (.d ((eT (eT PyData.int)) scale_)), some (.d (PyData.int many_)), some (.cell .own (.lst (List.map (eP (eT PyData.int) (eT PyData.int)) ys16))), some (.d (PyData.int it2)), some (.d (PyData.int a9)), some (.d ((eL (eT PyData.int)) r12)), some (.d ((eT PyData.int) r13.1)), some (.d ((eT PyData.int) r14.1))]) rfl rfl (fun _ => rfl) ?_
      intro ys16
      refine c_end1 ?_
      exact sim_ret ⟨rfl, rfl⟩
    · refine sim_bnd0 ?_
      refine c_end ?_
      exact sim_ret ⟨rfl, rfl⟩
    rintro s15 fl e ⟨rfl, rfl⟩
    refine c_end1 ?_
    exact sim_ret ⟨.inl rfl, ⟨_, _, _, _, datO_d, datO_d, datO_d, datO_d, rfl⟩⟩
  intro s4 e hK e' hu
  obtain ⟨o5, o6, o7, o8, ho5, ho6, ho7, ho8, he⟩ := hK
  obtain rfl : e' = [some (.cell .bor (.lst (List.map PyData.int s4.1))), some (.d ((eT (eT PyData.int)) scale_)), some (.d (PyData.int many_)), some (.cell .own (.lst (List.map (eP (eT PyData.int) (eT PyData.int)) s4.2))), some (.d (PyData.int it2)), o5, o6, o7, o8] := by rw [← hu, he]; rfl
  clear hu he
  refine c_blk1 ?_
  refine c_ret ?_
  refine c_call ?_
  refine c_pcons ?_
  refine c_cell rfl ?_
  refine c_pnil ?_
  refine cb_pure (r := .d (eT (eP (eT PyData.int) (eT PyData.int)) s4.2)) rfl rfl ?_
  refine rt_d ?_
  exact sim_ret ⟨.inl rfl, rfl⟩
def S_bare (exchange_ : (List Int) × (List Int)) : M (((List Int) × (List Int))) :=
  lenG (List.map (fun (a1 : Int × Int) => (max2 (0 : Int) (a1.1 - a1.2))) (List.zip exchange_.1 exchange_.2)) >>= fun xs2 =>
  lenG (List.map (fun (a3 : Int × Int) => (max2 (0 : Int) (a3.2 - a3.1))) (List.zip exchange_.1 exchange_.2)) >>= fun xs4 =>
  .ok (xs2, xs4)
theorem L_bare (exchange_ : (List Int) × (List Int)) : FSim (F_bare [.d ((eP (eT PyData.int) (eT PyData.int)) exchange_)]) (S_bare exchange_) (fun (r : ((List Int) × (List Int))) => Ret.d ((eP (eT PyData.int) (eT PyData.int)) r)) (fun (r : ((List Int) × (List Int))) => [.d ((eP (eT PyData.int) (eT PyData.int)) exchange_)]) := by
  refine fs_mk ?_
  unfold S_bare
  refine sim_bnd0 ?_
  have e0 : envOf 5 [.d ((eP (eT PyData.int) (eT PyData.int)) exchange_)] = [some (.d ((eP (eT PyData.int) (eT PyData.int)) exchange_)), none, none, none, none] := rfl
  rw [e0]
  unfold f_bare
  refine c_blk ?_
  refine c_set ?_
  refine c_call ?_
  refine c_pcons ?_
  refine c_comp ?_
  refine c_zipM ?_
  refine c_cons ?_
  refine c_take ?_
  refine c_bin ?_
  refine c_name rfl ?_
  refine c_const ?_
  refine b_pure (u := (eP (eT PyData.int) (eT PyData.int)) exchange_) (r := .d ((eT PyData.int) exchange_.1)) rfl rfl rfl ?_
  refine t_pure rfl ?_
  refine c_cons ?_
  refine c_take ?_
  refine c_bin ?_
  refine c_name rfl ?_
  refine c_const ?_
  refine b_pure (u := (eP (eT PyData.int) (eT PyData.int)) exchange_) (r := .d ((eT PyData.int) exchange_.2)) rfl rfl rfl ?_
  refine t_pure rfl ?_
  refine c_nil ?_
  refine z_pure (e := PyData.int) (f := PyData.int) (xs := exchange_.1) (ys := exchange_.2) rfl rfl ?_
  refine co_m (enc' := PyData.int) (el := [some (.d ((eP (eT PyData.int) (eT PyData.int)) exchange_)), none, none, none, none]) rfl (nc_cons rfl datO_none (nc_cons rfl datO_none nc_nil)) rfl ?_ ?_
  · intro a1
    refine ⟨[some (.d ((eP (eT PyData.int) (eT PyData.int)) exchange_)), none, none, some (.d (PyData.int a1.1)), some (.d (PyData.int a1.2))], (bt_tup rfl (bt_cons (bn (e' := [some (.d ((eP (eT PyData.int) (eT PyData.int)) exchange_)), none, none, some (.d (PyData.int a1.1)), none]) rfl okO_none rfl) (bt_cons (bn (e' := [some (.d ((eP (eT PyData.int) (eT PyData.int)) exchange_)), none, none, some (.d (PyData.int a1.1)), some (.d (PyData.int a1.2))]) rfl okO_none rfl) bt_nil))), ?_⟩
    refine c_turnY ?_
    refine c_take ?_
    refine c_call ?_
    refine c_pcons ?_
    refine c_const ?_
    refine c_pcons ?_
    refine c_bin ?_
    refine c_name rfl ?_
    refine c_name rfl ?_
    refine b_pure rfl rfl rfl ?_
    refine c_pnil ?_
    refine cb_pure (r := .d (.int (max2 (0 : Int) (a1.1 - a1.2)))) rfl rfl ?_
    refine t_pure rfl ?_
    exact sim_ret ⟨rfl, rfl⟩
  intro xs2
  refine c_pnil ?_
  refine cb_pure (r := .d (eT PyData.int xs2)) rfl rfl ?_
  refine as_d (e' := [some (.d ((eP (eT PyData.int) (eT PyData.int)) exchange_)), some (.d ((eT PyData.int) xs2)), none, none, none]) rfl okO_none rfl ?_
  refine c_blk1 ?_
  refine c_set ?_
  refine c_call ?_
  refine c_pcons ?_
  refine c_comp ?_
  refine c_zipM ?_
  refine c_cons ?_
  refine c_take ?_
  refine c_bin ?_
  refine c_name rfl ?_
  refine c_const ?_
  refine b_pure (u := (eP (eT PyData.int) (eT PyData.int)) exchange_) (r := .d ((eT PyData.int) exchange_.1)) rfl rfl rfl ?_
  refine t_pure rfl ?_
  refine c_cons ?_
  refine c_take ?_
  refine c_bin ?_
  refine c_name rfl ?_
  refine c_const ?_
  refine b_pure (u := (eP (eT PyData.int) (eT PyData.int)) exchange_) (r := .d ((eT PyData.int) exchange_.2)) rfl rfl rfl ?_
  refine t_pure rfl ?_
  refine c_nil ?_
  refine z_pure (e := PyData.int) (f := PyData.int) (xs := exchange_.1) (ys := exchange_.2) rfl rfl ?_
  refine co_m (enc' := PyData.int) (el := [some (.d ((eP (eT PyData.int) (eT PyData.int)) exchange_)), some (.d ((eT PyData.int) xs2)), none, none, none]) rfl (nc_cons rfl datO_none (nc_cons rfl datO_none nc_nil)) rfl ?_ ?_
  · intro a3
    refine ⟨[some (.d ((eP (eT PyData.int) (eT PyData.int)) exchange_)), some (.d ((eT PyData.int) xs2)), none, some (.d (PyData.int a3.1)), some (.d (PyData.int a3.2))], (bt_tup rfl (bt_cons (bn (e' := [some (.d ((eP (eT PyData.int) (eT PyData.int)) exchange_)), some (.d ((eT PyData.int) xs2)), none, some (.d (PyData.int a3.1)), none]) rfl okO_none rfl) (bt_cons (bn (e' := [some (.d ((eP (eT PyData.int) (eT PyData.int)) exchange_)), some (.d ((eT PyData.int) xs2)), none, some (.d (PyData.int a3.1)), some (.d (PyData.int a3.2))]) rfl okO_none rfl) bt_nil))), ?_⟩
    refine c_turnY ?_
    refine c_take ?_
    refine c_call ?_
    refine c_pcons ?_
    refine c_const ?_
    refine c_pcons ?_
    refine c_bin ?_
    refine c_name rfl ?_
    refine c_name rfl ?_
    refine b_pure rfl rfl rfl ?_
    refine c_pnil ?_
    refine cb_pure (r := .d (.int (max2 (0 : Int) (a3.2 - a3.1)))) rfl rfl ?_
    refine t_pure rfl ?_
    exact sim_ret ⟨rfl, rfl⟩
  intro xs4
  refine c_pnil ?_
  refine cb_pure (r := .d (eT PyData.int xs4)) rfl rfl ?_
  refine as_d (e' := [some (.d ((eP (eT PyData.int) (eT PyData.int)) exchange_)), some (.d ((eT PyData.int) xs2)), some (.d ((eT PyData.int) xs4)), none, none]) rfl okO_none rfl ?_
  refine c_blk1 ?_
  refine c_ret ?_
  refine c_tup ?_
  refine c_cons ?_
  refine c_take ?_
  refine c_name rfl ?_
  refine t_pure rfl ?_
  refine c_cons ?_
  refine c_take ?_
  refine c_name rfl ?_
  refine t_pure rfl ?_
  refine c_nil ?_
  refine tu_pure (v := (eP (eT PyData.int) (eT PyData.int)) (xs2, xs4)) rfl rfl ?_
  refine rt_d ?_
  exact sim_ret ⟨.inl rfl, rfl⟩
def S_law_below (one_ : List Int) (other_ : List Int) : M (Bool) :=
  lenG (List.map (fun (a1 : Int × Int) => (1 : Int)) (List.filter (fun (a1 : Int × Int) => (decide (a1.2 < a1.1))) (List.zip one_ other_))) >>= fun xs2 =>
  .ok (eqD xs2 ([] : List Int))
theorem L_law_below (one_ : List Int) (other_ : List Int) : FSim (F_law_below [.d ((eT PyData.int) one_), .d ((eT PyData.int) other_)]) (S_law_below one_ other_) (fun (r : Bool) => Ret.d (PyData.bool r)) (fun (r : Bool) => [.d ((eT PyData.int) one_), .d ((eT PyData.int) other_)]) := by
  refine fs_mk ?_
  unfold S_law_below
  refine sim_bnd0 ?_
  have e0 : envOf 4 [.d ((eT PyData.int) one_), .d ((eT PyData.int) other_)] = [some (.d ((eT PyData.int) one_)), some (.d ((eT PyData.int) other_)), none, none] := rfl
  rw [e0]
  unfold f_law_below
  refine c_blk ?_
  refine c_ret ?_
  refine c_bin ?_
  refine c_comp ?_
  refine c_zipM ?_
  refine c_cons ?_
  refine c_take ?_
  refine c_name rfl ?_
  refine t_pure rfl ?_
  refine c_cons ?_
  refine c_take ?_
  refine c_name rfl ?_
  refine t_pure rfl ?_
  refine c_nil ?_
  refine z_pure (e := PyData.int) (f := PyData.int) (xs := one_) (ys := other_) rfl rfl ?_
  refine co_t (enc' := PyData.int) (el := [some (.d ((eT PyData.int) one_)), some (.d ((eT PyData.int) other_)), none, none]) (p := fun (a1 : Int × Int) => (decide (a1.2 < a1.1))) (f := fun (a1 : Int × Int) => (1 : Int)) rfl (nc_cons rfl datO_none (nc_cons rfl datO_none nc_nil)) rfl ?_ ?_
  · intro a1
    refine ⟨[some (.d ((eT PyData.int) one_)), some (.d ((eT PyData.int) other_)), some (.d (PyData.int a1.1)), some (.d (PyData.int a1.2))], (bt_tup rfl (bt_cons (bn (e' := [some (.d ((eT PyData.int) one_)), some (.d ((eT PyData.int) other_)), some (.d (PyData.int a1.1)), none]) rfl okO_none rfl) (bt_cons (bn (e' := [some (.d ((eT PyData.int) one_)), some (.d ((eT PyData.int) other_)), some (.d (PyData.int a1.1)), some (.d (PyData.int a1.2))]) rfl okO_none rfl) bt_nil))), ?_⟩
    refine c_turn ?_
    refine c_tru ?_
    refine c_bin ?_
    refine c_name rfl ?_
    refine c_name rfl ?_
    refine b_pure rfl rfl rfl ?_
    refine tr_pure rfl rfl ?_
    refine ite_s (fun _ => ?_) (fun _ => ?_)
    · refine c_take ?_
      refine c_const ?_
      refine t_pure rfl ?_
      exact sim_ret ⟨rfl, rfl⟩
    · exact sim_ret ⟨rfl, rfl⟩
  intro xs2
  refine c_lst ?_
  refine c_nil ?_
  refine ls_pure (ys := List.map PyData.int ([] : List Int)) rfl rfl ?_
  refine b_pure (u := (eL PyData.int) xs2) (v := (eL PyData.int) ([] : List Int)) rfl rfl (eq_t (EqT.L EqT.I) (by decide)) ?_
  refine rt_d ?_
  exact sim_ret ⟨.inl rfl, rfl⟩
def S_is_below (one_ : List Int) (other_ : List Int) : M (Bool) :=
  lenG (List.map (fun (a1 : Int × Int) => (decide (a1.1 ≤ a1.2))) (List.zip one_ other_)) >>= fun xs2 =>
  .ok (xs2.all id)
theorem L_is_below (one_ : List Int) (other_ : List Int) : FSim (F_is_below [.d ((eT PyData.int) one_), .d ((eT PyData.int) other_)]) (S_is_below one_ other_) (fun (r : Bool) => Ret.d (PyData.bool r)) (fun (r : Bool) => [.d ((eT PyData.int) one_), .d ((eT PyData.int) other_)]) := by
  refine fs_mk ?_
  unfold S_is_below
  refine sim_bnd0 ?_
  have e0 : envOf 4 [.d ((eT PyData.int) one_), .d ((eT PyData.int) other_)] = [some (.d ((eT PyData.int) one_)), some (.d ((eT PyData.int) other_)), none, none] := rfl
  rw [e0]
  unfold f_is_below
  refine c_blk ?_
  refine c_ret ?_
  refine c_call ?_
  refine c_pcons ?_
  refine c_comp ?_
  refine c_zipM ?_
  refine c_cons ?_
  refine c_take ?_
  refine c_name rfl ?_
  refine t_pure rfl ?_
  refine c_cons ?_
  refine c_take ?_
  refine c_name rfl ?_
  refine t_pure rfl ?_
  refine c_nil ?_
  refine z_pure (e := PyData.int) (f := PyData.int) (xs := one_) (ys := other_) rfl rfl ?_
  refine co_m (enc' := PyData.bool) (el := [some (.d ((eT PyData.int) one_)), some (.d ((eT PyData.int) other_)), none, none]) rfl (nc_cons rfl datO_none (nc_cons rfl datO_none nc_nil)) rfl ?_ ?_
  · intro a1
    refine ⟨[some (.d ((eT PyData.int) one_)), some (.d ((eT PyData.int) other_)), some (.d (PyData.int a1.1)), some (.d (PyData.int a1.2))], (bt_tup rfl (bt_cons (bn (e' := [some (.d ((eT PyData.int) one_)), some (.d ((eT PyData.int) other_)), some (.d (PyData.int a1.1)), none]) rfl okO_none rfl) (bt_cons (bn (e' := [some (.d ((eT PyData.int) one_)), some (.d ((eT PyData.int) other_)), some (.d (PyData.int a1.1)), some (.d (PyData.int a1.2))]) rfl okO_none rfl) bt_nil))), ?_⟩
    refine c_turnY ?_
    refine c_take ?_
    refine c_bin ?_
    refine c_name rfl ?_
    refine c_name rfl ?_
    refine b_pure rfl rfl rfl ?_
    refine t_pure rfl ?_
    exact sim_ret ⟨rfl, rfl⟩
  intro xs2
  refine c_pnil ?_
  refine cb_pure (xs := [eL PyData.bool xs2]) rfl allL ?_
  refine rt_d ?_
  exact sim_ret ⟨.inl rfl, rfl⟩
def S_is_within (one_ : (List Int) × (List Int)) (other_ : (List Int) × (List Int)) : M (Bool) :=
  S_is_below one_.1 other_.1 >>= fun r1 =>
  (if r1 = true then (S_is_below one_.2 other_.2 >>= fun r2 =>
  .ok r2) else .ok false) >>= fun b3 =>
  if b3 = true then (.ok true)
  else
  S_is_below one_.1 other_.2 >>= fun r4 =>
  (if r4 = true then (S_is_below one_.2 other_.1 >>= fun r5 =>
  .ok r5) else .ok false) >>= fun b6 =>
  .ok b6
theorem L_is_within (one_ : (List Int) × (List Int)) (other_ : (List Int) × (List Int)) : FSim (F_is_within [.d ((eP (eT PyData.int) (eT PyData.int)) one_), .d ((eP (eT PyData.int) (eT PyData.int)) other_)]) (S_is_within one_ other_) (fun (r : Bool) => Ret.d (PyData.bool r)) (fun (r : Bool) => [.d ((eP (eT PyData.int) (eT PyData.int)) one_), .d ((eP (eT PyData.int) (eT PyData.int)) other_)]) := by
  refine fs_mk ?_
  unfold S_is_within
  refine sim_bnd0 ?_
  have e0 : envOf 2 [.d ((eP (eT PyData.int) (eT PyData.int)) one_), .d ((eP (eT PyData.int) (eT PyData.int)) other_)] = [some (.d ((eP (eT PyData.int) (eT PyData.int)) one_)), some (.d ((eP (eT PyData.int) (eT PyData.int)) other_))] := rfl
  rw [e0]
  unfold f_is_within
  refine c_blk ?_
  refine c_ifS ?_
  refine c_and ?_
  refine c_tru ?_
  refine c_callF ?_
  refine c_adat ?_
  refine c_take ?_
  refine c_bin ?_
  refine c_name rfl ?_
  refine c_const ?_
  refine b_pure (u := (eP (eT PyData.int) (eT PyData.int)) one_) (r := .d ((eT PyData.int) one_.1)) rfl rfl rfl ?_
  refine t_pure rfl ?_
  refine c_adat ?_
  refine c_take ?_
  refine c_bin ?_
  refine c_name rfl ?_
  refine c_const ?_
  refine b_pure (u := (eP (eT PyData.int) (eT PyData.int)) other_) (r := .d ((eT PyData.int) other_.1)) rfl rfl rfl ?_
  refine t_pure rfl ?_
  refine c_anil ?_
  refine cf_s (e2 := fun r1 => [some (.d ((eP (eT PyData.int) (eT PyData.int)) one_)), some (.d ((eP (eT PyData.int) (eT PyData.int)) other_))]) (L_is_below one_.1 other_.1) (show List.Nodup ([] : List Nat) by decide) rfl rfl (fun _ => rfl) (fun _ => trivial) ?_
  intro r1
  refine tr_pure rfl rfl ?_
  refine and_m ?_ ?_
  · refine sim_bnd0 ?_
    refine c_tru ?_
    refine c_callF ?_
    refine c_adat ?_
    refine c_take ?_
    refine c_bin ?_
    refine c_name rfl ?_
    refine c_const ?_
    refine b_pure (u := (eP (eT PyData.int) (eT PyData.int)) one_) (r := .d ((eT PyData.int) one_.2)) rfl rfl rfl ?_
    refine t_pure rfl ?_
    refine c_adat ?_
    refine c_take ?_
    refine c_bin ?_
    refine c_name rfl ?_
    refine c_const ?_
    refine b_pure (u := (eP (eT PyData.int) (eT PyData.int)) other_) (r := .d ((eT PyData.int) other_.2)) rfl rfl rfl ?_
    refine t_pure rfl ?_
    refine c_anil ?_
    refine cf_s (e2 := fun r2 => [some (.d ((eP (eT PyData.int) (eT PyData.int)) one_)), some (.d ((eP (eT PyData.int) (eT PyData.int)) other_))]) (L_is_below one_.2 other_.2) (show List.Nodup ([] : List Nat) by decide) rfl rfl (fun _ => rfl) (fun _ => trivial) ?_
    intro r2
    refine tr_pure rfl rfl ?_
    exact sim_ret ⟨rfl, rfl⟩
  intro b3
  refine ite_b (fun _ => ?_) (fun _ => ?_)
  · refine c_blk ?_
    refine c_ret ?_
    refine c_const ?_
    refine rt_d ?_
    exact sim_ret ⟨.inl rfl, rfl⟩
  refine c_end ?_
  refine c_blk1 ?_
  refine c_ret ?_
  refine c_andV ?_
  refine c_callF ?_
  refine c_adat ?_
  refine c_take ?_
  refine c_bin ?_
  refine c_name rfl ?_
  refine c_const ?_
  refine b_pure (u := (eP (eT PyData.int) (eT PyData.int)) one_) (r := .d ((eT PyData.int) one_.1)) rfl rfl rfl ?_
  refine t_pure rfl ?_
  refine c_adat ?_
  refine c_take ?_
  refine c_bin ?_
  refine c_name rfl ?_
  refine c_const ?_
  refine b_pure (u := (eP (eT PyData.int) (eT PyData.int)) other_) (r := .d ((eT PyData.int) other_.2)) rfl rfl rfl ?_
  refine t_pure rfl ?_
  refine c_anil ?_
  refine cf_s (e2 := fun r4 => [some (.d ((eP (eT PyData.int) (eT PyData.int)) one_)), some (.d ((eP (eT PyData.int) (eT PyData.int)) other_))]) (L_is_below one_.1 other_.2) (show List.Nodup ([] : List Nat) by decide) rfl rfl (fun _ => rfl) (fun _ => trivial) ?_
  intro r4
  refine andV_m rfl ?_ ?_
  · refine sim_bnd0 ?_
    refine c_callF ?_
    refine c_adat ?_
    refine c_take ?_
    refine c_bin ?_
    refine c_name rfl ?_
    refine c_const ?_
    refine b_pure (u := (eP (eT PyData.int) (eT PyData.int)) one_) (r := .d ((eT PyData.int) one_.2)) rfl rfl rfl ?_
    refine t_pure rfl ?_
    refine c_adat ?_
    refine c_take ?_
    refine c_bin ?_
    refine c_name rfl ?_
    refine c_const ?_
    refine b_pure (u := (eP (eT PyData.int) (eT PyData.int)) other_) (r := .d ((eT PyData.int) other_.1)) rfl rfl rfl ?_
    refine t_pure rfl ?_
    refine c_anil ?_
    refine cf_s (e2 := fun r5 => [some (.d ((eP (eT PyData.int) (eT PyData.int)) one_)), some (.d ((eP (eT PyData.int) (eT PyData.int)) other_))]) (L_is_below one_.2 other_.1) (show List.Nodup ([] : List Nat) by decide) rfl rfl (fun _ => rfl) (fun _ => trivial) ?_
    intro r5
    exact sim_ret ⟨rfl, rfl⟩
  intro b6
  refine rt_d ?_
  exact sim_ret ⟨.inl rfl, rfl⟩
end BH

set_option maxRecDepth 100000
set_option maxHeartbeats 4000000
namespace BH
open PySem PySem.Spec PyProof.Rows L2
/-- sum_by(row, heap): slots row, heap, number, count -/
def f_sum_by : SF :=
  (fSeqS (fRet (fCall opSum (fPCons (fComp (fZipM (fCons (fTake (fName 0)) (fCons (fTake (fName 1)) fNil))) (bTup (bCons (bName 2) (bCons (bName 3) bNil))) [2, 3] fYes (fTake (fBin opMul (fName 2) (fName 3)))) fPNil))) fNextS)
def F_sum_by : List Arg → FRes := fnF 4 f_sum_by
/-- changes_of_book(book): slots book, take, put, less, more -/
def f_changes_of_book : SF :=
  (fSeqS (fRet (fComp (fSeq (fName 0)) (bTup (bCons (bName 1) (bCons (bName 2) bNil))) [1, 2] fYes (fTake (fCall opTuple (fPCons (fComp (fZipM (fCons (fTake (fName 1)) (fCons (fTake (fName 2)) fNil))) (bTup (bCons (bName 3) (bCons (bName 4) bNil))) [3, 4] fYes (fTake (fBin opSub (fName 4) (fName 3)))) fPNil))))) fNextS)
def F_changes_of_book : List Arg → FRes := fnF 5 f_changes_of_book
/-- is_kept(book, row): slots book, row, change -/
def f_is_kept : SF :=
  (fSeqS (fRet (fCall opAll (fPCons (fComp (fSeq (fCallF 1 F_changes_of_book (aDat (fTake (fName 0)) aNil))) (bName 2) [2] fYes (fTake (fBin (opEq false) (fCallF 2 F_sum_by (aDat (fTake (fName 1)) (aDat (fTake (fName 2)) aNil))) (fC (.int 0))))) fPNil))) fNextS)
def F_is_kept : List Arg → FRes := fnF 3 f_is_kept
/-- _law_dot(row, heap): slots row, heap, number, count -/
def f_law_dot : SF :=
  (fSeqS (fRet (fCall opSum (fPCons (fComp (fZipM (fCons (fTake (fName 0)) (fCons (fTake (fName 1)) fNil))) (bTup (bCons (bName 2) (bCons (bName 3) bNil))) [2, 3] fYes (fTake (fBin opMul (fName 2) (fName 3)))) fPNil))) fNextS)
def F_law_dot : List Arg → FRes := fnF 4 f_law_dot
def S_changes_of_book (book_ : List ((List Int) × (List Int))) : M ((List (List Int))) :=
  compP (fun (a1 : (List Int) × (List Int)) => lenG (List.map (fun (a2 : Int × Int) => (a2.2 - a2.1)) (List.zip a1.1 a1.2)) >>= fun xs3 =>
  .ok (some xs3)) book_ >>= fun xs4 =>
  .ok xs4
theorem L_changes_of_book (book_ : List ((List Int) × (List Int))) : FSim (F_changes_of_book [.d ((eT (eP (eT PyData.int) (eT PyData.int))) book_)]) (S_changes_of_book book_) (fun (r : (List (List Int))) => Ret.tmp (.lst (List.map (eT PyData.int) r))) (fun (r : (List (List Int))) => [.d ((eT (eP (eT PyData.int) (eT PyData.int))) book_)]) := by
  refine fs_mk ?_
  unfold S_changes_of_book
  refine sim_bnd0 ?_
  have e0 : envOf 5 [.d ((eT (eP (eT PyData.int) (eT PyData.int))) book_)] = [some (.d ((eT (eP (eT PyData.int) (eT PyData.int))) book_)), none, none, none, none] := rfl
  rw [e0]
  unfold f_changes_of_book
  refine c_blk ?_
  refine c_ret ?_
  refine c_comp ?_
  refine c_seq ?_
  refine c_name rfl ?_
  refine sq_T (ds := List.map (eP (eT PyData.int) (eT PyData.int)) book_) rfl ?_
  refine co_p (enc' := (eT PyData.int)) (el := [some (.d ((eT (eP (eT PyData.int) (eT PyData.int))) book_)), none, none, none, none]) rfl (nc_cons rfl datO_none (nc_cons rfl datO_none nc_nil)) rfl ?_ ?_
  · intro a1
    refine ⟨[some (.d ((eT (eP (eT PyData.int) (eT PyData.int))) book_)), some (.d ((eT PyData.int) a1.1)), some (.d ((eT PyData.int) a1.2)), none, none], (bt_tup rfl (bt_cons (bn (e' := [some (.d ((eT (eP (eT PyData.int) (eT PyData.int))) book_)), some (.d ((eT PyData.int) a1.1)), none, none, none]) rfl okO_none rfl) (bt_cons (bn (e' := [some (.d ((eT (eP (eT PyData.int) (eT PyData.int))) book_)), some (.d ((eT PyData.int) a1.1)), some (.d ((eT PyData.int) a1.2)), none, none]) rfl okO_none rfl) bt_nil))), ?_⟩
    refine c_turnY ?_
    refine c_take ?_
    refine c_call ?_
    refine c_pcons ?_
    refine c_comp ?_
    refine c_zipM ?_
    refine c_cons ?_
    refine c_take ?_
    refine c_name rfl ?_
    refine t_pure rfl ?_
    refine c_cons ?_
    refine c_take ?_
    refine c_name rfl ?_
    refine t_pure rfl ?_
    refine c_nil ?_
    refine z_pure (e := PyData.int) (f := PyData.int) (xs := a1.1) (ys := a1.2) rfl rfl ?_
    refine co_m (enc' := PyData.int) (el := [some (.d ((eT (eP (eT PyData.int) (eT PyData.int))) book_)), some (.d ((eT PyData.int) a1.1)), some (.d ((eT PyData.int) a1.2)), none, none]) rfl (nc_cons rfl datO_none (nc_cons rfl datO_none nc_nil)) rfl ?_ ?_
    · intro a2
      refine ⟨[some (.d ((eT (eP (eT PyData.int) (eT PyData.int))) book_)), some (.d ((eT PyData.int) a1.1)), some (.d ((eT PyData.int) a1.2)), some (.d (PyData.int a2.1)), some (.d (PyData.int a2.2))], (bt_tup rfl (bt_cons (bn (e' := [some (.d ((eT (eP (eT PyData.int) (eT PyData.int))) book_)), some (.d ((eT PyData.int) a1.1)), some (.d ((eT PyData.int) a1.2)), some (.d (PyData.int a2.1)), none]) rfl okO_none rfl) (bt_cons (bn (e' := [some (.d ((eT (eP (eT PyData.int) (eT PyData.int))) book_)), some (.d ((eT PyData.int) a1.1)), some (.d ((eT PyData.int) a1.2)), some (.d (PyData.int a2.1)), some (.d (PyData.int a2.2))]) rfl okO_none rfl) bt_nil))), ?_⟩
      refine c_turnY ?_
      refine c_take ?_
      refine c_bin ?_
      refine c_name rfl ?_
      refine c_name rfl ?_
      refine b_pure rfl rfl rfl ?_
      refine t_pure rfl ?_
      exact sim_ret ⟨rfl, rfl⟩
    intro xs3
    refine c_pnil ?_
    refine cb_pure (r := .d (eT PyData.int xs3)) rfl rfl ?_
    refine t_pure rfl ?_
    exact sim_ret ⟨rfl, rfl⟩
  intro xs4
  refine rt_t ?_
  exact sim_ret ⟨.inl rfl, rfl⟩
def S_sum_by (row_ : List Int) (heap_ : List Int) : M (Int) :=
  compP (fun (a1 : Int × Int) => mulM a1.1 a1.2 >>= fun mul2 =>
  .ok (some mul2)) (List.zip row_ heap_) >>= fun xs3 =>
  .ok (xs3.sum)
theorem L_sum_by (row_ : List Int) (heap_ : List Int) : FSim (F_sum_by [.d ((eT PyData.int) row_), .d ((eT PyData.int) heap_)]) (S_sum_by row_ heap_) (fun (r : Int) => Ret.d (PyData.int r)) (fun (r : Int) => [.d ((eT PyData.int) row_), .d ((eT PyData.int) heap_)]) := by
  refine fs_mk ?_
  unfold S_sum_by
  refine sim_bnd0 ?_
  have e0 : envOf 4 [.d ((eT PyData.int) row_), .d ((eT PyData.int) heap_)] = [some (.d ((eT PyData.int) row_)), some (.d ((eT PyData.int) heap_)), none, none] := rfl
  rw [e0]
  unfold f_sum_by
  refine c_blk ?_
  refine c_ret ?_
  refine c_call ?_
  refine c_pcons ?_
  refine c_comp ?_
  refine c_zipM ?_
  refine c_cons ?_
  refine c_take ?_
  refine c_name rfl ?_
  refine t_pure rfl ?_
  refine c_cons ?_
  refine c_take ?_
  refine c_name rfl ?_
  refine t_pure rfl ?_
  refine c_nil ?_
  refine z_pure (e := PyData.int) (f := PyData.int) (xs := row_) (ys := heap_) rfl rfl ?_
  refine co_p (enc' := PyData.int) (el := [some (.d ((eT PyData.int) row_)), some (.d ((eT PyData.int) heap_)), none, none]) rfl (nc_cons rfl datO_none (nc_cons rfl datO_none nc_nil)) rfl ?_ ?_
  · intro a1
    refine ⟨[some (.d ((eT PyData.int) row_)), some (.d ((eT PyData.int) heap_)), some (.d (PyData.int a1.1)), some (.d (PyData.int a1.2))], (bt_tup rfl (bt_cons (bn (e' := [some (.d ((eT PyData.int) row_)), some (.d ((eT PyData.int) heap_)), some (.d (PyData.int a1.1)), none]) rfl okO_none rfl) (bt_cons (bn (e' := [some (.d ((eT PyData.int) row_)), some (.d ((eT PyData.int) heap_)), some (.d (PyData.int a1.1)), some (.d (PyData.int a1.2))]) rfl okO_none rfl) bt_nil))), ?_⟩
    refine c_turnY ?_
    refine c_take ?_
    refine c_bin ?_
    refine c_name rfl ?_
    refine c_name rfl ?_
    refine b_part rfl rfl mulS ?_
    intro mul2
    refine t_pure rfl ?_
    exact sim_ret ⟨rfl, rfl⟩
  intro xs3
  refine c_pnil ?_
  refine cb_pure (xs := [eL PyData.int xs3]) rfl sumL ?_
  refine rt_d ?_
  exact sim_ret ⟨.inl rfl, rfl⟩
def S_is_kept (book_ : List ((List Int) × (List Int))) (row_ : List Int) : M (Bool) :=
  S_changes_of_book book_ >>= fun r1 =>
  compP (fun (a2 : List Int) => S_sum_by row_ a2 >>= fun r3 =>
  .ok (some (eqD r3 (0 : Int)))) r1 >>= fun xs4 =>
  .ok (xs4.all id)
theorem L_is_kept (book_ : List ((List Int) × (List Int))) (row_ : List Int) : FSim (F_is_kept [.d ((eT (eP (eT PyData.int) (eT PyData.int))) book_), .d ((eT PyData.int) row_)]) (S_is_kept book_ row_) (fun (r : Bool) => Ret.d (PyData.bool r)) (fun (r : Bool) => [.d ((eT (eP (eT PyData.int) (eT PyData.int))) book_), .d ((eT PyData.int) row_)]) := by
  refine fs_mk ?_
  unfold S_is_kept
  refine sim_bnd0 ?_
  have e0 : envOf 3 [.d ((eT (eP (eT PyData.int) (eT PyData.int))) book_), .d ((eT PyData.int) row_)] = [some (.d ((eT (eP (eT PyData.int) (eT PyData.int))) book_)), some (.d ((eT PyData.int) row_)), none] := rfl
  rw [e0]
  unfold f_is_kept
  refine c_blk ?_
  refine c_ret ?_
  refine c_call ?_
  refine c_pcons ?_
  refine c_comp ?_
  refine c_seq ?_
  refine c_callF ?_
  refine c_adat ?_
  refine c_take ?_
  refine c_name rfl ?_
  refine t_pure rfl ?_
  refine c_anil ?_
  refine cf_s (e2 := fun r1 => [some (.d ((eT (eP (eT PyData.int) (eT PyData.int))) book_)), some (.d ((eT PyData.int) row_)), none]) (L_changes_of_book book_) (show List.Nodup ([] : List Nat) by decide) rfl rfl (fun _ => rfl) (fun _ => trivial) ?_
  intro r1
  refine sq_L (ds := List.map (eT PyData.int) r1) (lk := []) rfl rfl ?_
  refine co_p (enc' := PyData.bool) (el := [some (.d ((eT (eP (eT PyData.int) (eT PyData.int))) book_)), some (.d ((eT PyData.int) row_)), none]) rfl (nc_cons rfl datO_none nc_nil) rfl ?_ ?_
  · intro a2
    refine ⟨[some (.d ((eT (eP (eT PyData.int) (eT PyData.int))) book_)), some (.d ((eT PyData.int) row_)), some (.d ((eT PyData.int) a2))], (bn (e' := [some (.d ((eT (eP (eT PyData.int) (eT PyData.int))) book_)), some (.d ((eT PyData.int) row_)), some (.d ((eT PyData.int) a2))]) rfl okO_none rfl), ?_⟩
    refine c_turnY ?_
    refine c_take ?_
    refine c_bin ?_
    refine c_callF ?_
    refine c_adat ?_
    refine c_take ?_
    refine c_name rfl ?_
    refine t_pure rfl ?_
    refine c_adat ?_
    refine c_take ?_
    refine c_name rfl ?_
    refine t_pure rfl ?_
    refine c_anil ?_
    refine cf_s (e2 := fun r3 => [some (.d ((eT (eP (eT PyData.int) (eT PyData.int))) book_)), some (.d ((eT PyData.int) row_)), some (.d ((eT PyData.int) a2))]) (L_sum_by row_ a2) (show List.Nodup ([] : List Nat) by decide) rfl rfl (fun _ => rfl) (fun _ => trivial) ?_
    intro r3
    refine c_const ?_
    refine b_pure (u := PyData.int r3) (v := PyData.int (0 : Int)) rfl rfl (eq_t EqT.I (by decide)) ?_
    refine t_pure rfl ?_
    exact sim_ret ⟨rfl, rfl⟩
  intro xs4
  refine c_pnil ?_
  refine cb_pure (xs := [eL PyData.bool xs4]) rfl allL ?_
  refine rt_d ?_
  exact sim_ret ⟨.inl rfl, rfl⟩
def S_law_dot (row_ : List Int) (heap_ : List Int) : M (Int) :=
  compP (fun (a1 : Int × Int) => mulM a1.1 a1.2 >>= fun mul2 =>
  .ok (some mul2)) (List.zip row_ heap_) >>= fun xs3 =>
  .ok (xs3.sum)
theorem L_law_dot (row_ : List Int) (heap_ : List Int) : FSim (F_law_dot [.d ((eT PyData.int) row_), .d ((eT PyData.int) heap_)]) (S_law_dot row_ heap_) (fun (r : Int) => Ret.d (PyData.int r)) (fun (r : Int) => [.d ((eT PyData.int) row_), .d ((eT PyData.int) heap_)]) := by
  refine fs_mk ?_
  unfold S_law_dot
  refine sim_bnd0 ?_
  have e0 : envOf 4 [.d ((eT PyData.int) row_), .d ((eT PyData.int) heap_)] = [some (.d ((eT PyData.int) row_)), some (.d ((eT PyData.int) heap_)), none, none] := rfl
  rw [e0]
  unfold f_law_dot
  refine c_blk ?_
  refine c_ret ?_
  refine c_call ?_
  refine c_pcons ?_
  refine c_comp ?_
  refine c_zipM ?_
  refine c_cons ?_
  refine c_take ?_
  refine c_name rfl ?_
  refine t_pure rfl ?_
  refine c_cons ?_
  refine c_take ?_
  refine c_name rfl ?_
  refine t_pure rfl ?_
  refine c_nil ?_
  refine z_pure (e := PyData.int) (f := PyData.int) (xs := row_) (ys := heap_) rfl rfl ?_
  refine co_p (enc' := PyData.int) (el := [some (.d ((eT PyData.int) row_)), some (.d ((eT PyData.int) heap_)), none, none]) rfl (nc_cons rfl datO_none (nc_cons rfl datO_none nc_nil)) rfl ?_ ?_
  · intro a1
    refine ⟨[some (.d ((eT PyData.int) row_)), some (.d ((eT PyData.int) heap_)), some (.d (PyData.int a1.1)), some (.d (PyData.int a1.2))], (bt_tup rfl (bt_cons (bn (e' := [some (.d ((eT PyData.int) row_)), some (.d ((eT PyData.int) heap_)), some (.d (PyData.int a1.1)), none]) rfl okO_none rfl) (bt_cons (bn (e' := [some (.d ((eT PyData.int) row_)), some (.d ((eT PyData.int) heap_)), some (.d (PyData.int a1.1)), some (.d (PyData.int a1.2))]) rfl okO_none rfl) bt_nil))), ?_⟩
    refine c_turnY ?_
    refine c_take ?_
    refine c_bin ?_
    refine c_name rfl ?_
    refine c_name rfl ?_
    refine b_part rfl rfl mulS ?_
    intro mul2
    refine t_pure rfl ?_
    exact sim_ret ⟨rfl, rfl⟩
  intro xs3
  refine c_pnil ?_
  refine cb_pure (xs := [eL PyData.int xs3]) rfl sumL ?_
  refine rt_d ?_
  exact sim_ret ⟨.inl rfl, rfl⟩
end BH

set_option maxRecDepth 100000
set_option maxHeartbeats 1000000
namespace BH
open PySem PySem.Spec PyProof.Rows L2
/-! ### it goes, and what comes of it -/
section
variable {α β γ δ σ ρ : Type}
def Ok (m : M α) (Q : α → Prop) : Prop := ∃ a, m = .ok a ∧ Q a
theorem ok_ret {a : α} {Q : α → Prop} (h : Q a) : Ok (.ok a) Q := ⟨a, rfl, h⟩
theorem ok_bind {m : M α} {f : α → M β} {P : α → Prop} {Q : β → Prop} (h : Ok m P) (hf : ∀ a, P a → Ok (f a) Q) : Ok (m >>= f) Q := by
  obtain ⟨a, rfl, p⟩ := h; exact hf a p
theorem ok_imp {m : M α} {P Q : α → Prop} (h : Ok m P) (hq : ∀ a, P a → Q a) : Ok m Q := by
  obtain ⟨a, e, p⟩ := h; exact ⟨a, e, hq a p⟩
theorem ok_eq {m : M α} {a : α} (h : m = .ok a) : Ok m fun b => b = a := ⟨a, h, rfl⟩
theorem ok_of {m : M α} {a : α} {Q : α → Prop} (h : m = .ok a) (q : Q a) : Ok m Q := ⟨a, h, q⟩
theorem ok_eq' {m : M α} {a : α} (h : Ok m fun b => b = a) : m = .ok a := by obtain ⟨b, e, rfl⟩ := h; exact e
theorem eq_bind {m : M α} {a : α} {f : α → M β} (h : m = .ok a) : (m >>= f) = f a := by rw [h]; rfl
theorem ok_ite {c : Bool} {m1 m2 : M α} {Q : α → Prop} (h1 : c = true → Ok m1 Q) (h2 : c = false → Ok m2 Q) : Ok (if c = true then m1 else m2) Q := by
  cases c with
  | true => exact h1 rfl
  | false => exact h2 rfl
theorem ok_for {f : α → σ → M σ} (P : Nat → σ → Prop) : ∀ (xs : List α) (k : Nat), (∀ (i : Nat) a s, xs[i]? = some a → P (k + i) s → Ok (f a s) (P (k + i + 1))) → ∀ s, P k s → Ok (forM' f xs s) (P (k + xs.length))
  | [], k, _, s, p => ok_ret p
  | a :: as, k, h, s, p => by
    unfold forM'
    refine ok_bind (h 0 a s rfl p) fun s' p' => ?_
    have := ok_for P as (k + 1) (fun i b t hi q => by
      have := h (i + 1) b t (by simpa using hi) (by rw [← Nat.add_assoc, Nat.add_right_comm]; exact q)
      rw [show k + (i + 1) = k + 1 + i by omega] at this
      exact this) s' p'
    rw [List.length_cons, show k + (as.length + 1) = k + 1 + as.length by omega]
    exact this
theorem ok_forI {f : α → σ → M σ} {xs : List α} {s : σ} (P : σ → Prop) (h : ∀ a s, a ∈ xs → P s → Ok (f a s) P) (h0 : P s) : Ok (forM' f xs s) P :=
  ok_for (fun _ => P) xs 0 (fun i a s hi p => h a s (List.mem_of_getElem? hi) p) s h0
theorem ok_forL {f : α → σ → M (Lp σ ρ)} {xs : List α} {s : σ} (P : σ → Prop) (R : ρ → Prop) (h : ∀ a s, a ∈ xs → P s → Ok (f a s) fun l => match l with | .nx s => P s | .bk s => P s | .rt r => R r) (h0 : P s) :
    Ok (forL f xs s) fun l => match l with | .nx s => P s | .bk _ => False | .rt r => R r := by
  induction xs generalizing s with
  | nil => exact ok_ret h0
  | cons a as ih =>
    unfold forL
    refine ok_bind (h a s (by simp) h0) fun l hl => ?_
    cases l with
    | nx s' => exact ih (fun b t hb => h b t (by simp [hb])) hl
    | bk s' => exact ok_ret hl
    | rt r => exact ok_ret hl
/-- a loop that is never left -/
theorem ok_forT {f : α → σ → M (Lp σ ρ)} {xs : List α} {s : σ} (P : σ → Prop) (h : ∀ a s, a ∈ xs → P s → Ok (f a s) fun l => ∃ s', l = .nx s' ∧ P s') (h0 : P s) : Ok (forL f xs s) fun l => ∃ s', l = .nx s' ∧ P s' := by
  induction xs generalizing s with
  | nil => exact ok_ret ⟨s, rfl, h0⟩
  | cons a as ih =>
    unfold forL
    refine ok_bind (h a s (by simp) h0) fun l hl => ?_
    obtain ⟨s', rfl, p⟩ := hl
    exact ih (fun b t hb => h b t (by simp [hb])) p
theorem ok_while {c : σ → M Bool} {f : σ → M σ} (P : σ → Prop) (Q : σ → Prop) (μ : σ → Nat) (h : ∀ s, P s → Ok (c s) fun b => if b = true then Ok (f s) (fun s' => P s' ∧ μ s' < μ s) else Q s) : ∀ (n : Nat) (s : σ), P s → μ s < n → Ok (whileM c f n s) Q
  | 0, s, _, hn => absurd hn (Nat.not_lt_zero _)
  | n + 1, s, p, hn => by
    unfold whileM
    refine ok_bind (h s p) fun b hb => ?_
    cases b with
    | false => exact ok_ret hb
    | true =>
      refine ok_bind hb fun s' q => ?_
      exact ok_while P Q μ h n s' q.1 (by omega)
theorem ok_whileF {c : σ → M Bool} {f : σ → M σ} {s : σ} (P : σ → Prop) (Q : σ → Prop) (μ : σ → Nat) (h : ∀ s, P s → Ok (c s) fun b => if b = true then Ok (f s) (fun s' => P s' ∧ μ s' < μ s) else Q s) (h0 : P s) (hm : μ s < 10 ^ 60) : Ok (whileM c f FUEL s) Q :=
  ok_while P Q μ h FUEL s h0 (by unfold FUEL; exact hm)
theorem ok_compG {f : α → σ → M (Option β × σ)} (P : List β → σ → Prop) : ∀ (xs : List α) (s : σ) (acc : List β), (∀ a s acc, a ∈ xs → P acc s → Ok (f a s) fun p => match p.1 with | some b => P (acc ++ [b]) p.2 | none => P acc p.2) → P acc s → acc.length + xs.length ≤ lim → Ok (compG f xs s acc) fun p => P p.1 p.2
  | [], s, acc, _, h0, _ => ok_ret h0
  | a :: as, s, acc, h, h0, hl => by
    unfold compG
    obtain ⟨p, e, q⟩ := h a s acc (by simp) h0
    obtain ⟨o, s'⟩ := p
    rw [e]
    simp only [List.length_cons] at hl
    cases o with
    | none => exact ok_compG P as s' acc (fun b t ac hb => h b t ac (by simp [hb])) q (by omega)
    | some b =>
      simp only
      rw [if_pos (by omega)]
      exact ok_compG P as s' (acc ++ [b]) (fun b t ac hb => h b t ac (by simp [hb])) q (by simp; omega)
/-- a comprehension that draws: its items, one after another -/
theorem ok_compS {f : α → σ → M (Option β × σ)} {xs : List α} {s : σ} (I : σ → Prop) (R : β → Prop) (h : ∀ a s, a ∈ xs → I s → Ok (f a s) fun p => (∃ b, p.1 = some b ∧ R b) ∧ I p.2) (h0 : I s) (hl : xs.length ≤ lim) : Ok (compS f xs s) fun p => p.1.length = xs.length ∧ (∀ b ∈ p.1, R b) ∧ I p.2 := by
  have : ∀ (ys : List α) (s : σ) (acc : List β), (∀ a ∈ ys, a ∈ xs) → I s → (∀ b ∈ acc, R b) → acc.length + ys.length ≤ lim → Ok (compG f ys s acc) fun p => p.1.length = acc.length + ys.length ∧ (∀ b ∈ p.1, R b) ∧ I p.2 := by
    intro ys
    induction ys with
    | nil => intro s acc _ i r _; exact ok_ret ⟨rfl, r, i⟩
    | cons a as ih =>
      intro s acc hy i r hl
      unfold compG
      obtain ⟨p, e, q, i'⟩ := h a s (hy a (by simp)) i
      obtain ⟨o, s'⟩ := p
      obtain ⟨b, hb, rb⟩ := q
      simp only at hb
      subst hb
      rw [e]
      simp only [List.length_cons] at hl ⊢
      rw [if_pos (by omega)]
      refine ok_imp (ih s' (acc ++ [b]) (fun a ha => hy a (by simp [ha])) i' (fun c hc => ?_) (by simp; omega)) fun p hp => ⟨by rw [hp.1]; simp; omega, hp.2⟩
      rcases List.mem_append.mp hc with hc | hc
      · exact r c hc
      · rw [List.mem_singleton.mp hc]; exact rb
  have := this xs s [] (fun _ h => h) h0 (by simp) (by simpa using hl)
  simpa [compS] using this
end
/-! ### the operations -/
section
variable {α β : Type}
theorem ixM_nat {xs : List α} {n : Nat} {a : α} (h : xs[n]? = some a) : ixM xs (n : Int) = .ok a := by
  have hn := (List.getElem?_eq_some_iff.mp h).1
  unfold ixM atI ixN
  rw [if_pos (by omega), if_pos (by omega)]
  simp [h]
theorem ixM_int {xs : List α} {i : Int} {a : α} (h0 : 0 ≤ i) (h : xs[i.toNat]? = some a) : ixM xs i = .ok a := by
  obtain ⟨n, rfl⟩ := Int.eq_ofNat_of_zero_le h0
  exact ixM_nat (by simpa using h)
theorem ixM_zero {a : α} {xs : List α} : ixM (a :: xs) 0 = .ok a := ixM_nat (n := 0) rfl
theorem ok_ix {xs : List α} {i : Int} (h0 : 0 ≤ i) (h1 : i < xs.length) : Ok (ixM xs i) fun a => a ∈ xs ∧ xs[i.toNat]? = some a := by
  have h : i.toNat < xs.length := by omega
  exact ⟨xs[i.toNat], ixM_int h0 (List.getElem?_eq_getElem h), List.getElem_mem h, List.getElem?_eq_getElem h⟩
theorem setM_nat {xs : List α} {n : Nat} {a : α} (h : n < xs.length) : setM xs (n : Int) a = .ok (xs.set n a) := by
  unfold setM ixN
  rw [if_pos (by omega), if_pos (by omega)]
  simp
theorem lenG_ok {xs : List α} (h : xs.length ≤ lim) : lenG xs = .ok xs := by unfold lenG; rw [if_pos h]
theorem mulM_ok {i j : Int} (h : mulG i j) : mulM i j = .ok (i * j) := by unfold mulM; rw [if_pos h]
theorem mulM_l {i j : Int} (h : -(2 ^ 64) < i) (h' : i < 2 ^ 64) : mulM i j = .ok (i * j) := mulM_ok (.inl (.inl ⟨h, h'⟩))
theorem mulM_r {i j : Int} (h : -(2 ^ 64) < j) (h' : j < 2 ^ 64) : mulM i j = .ok (i * j) := mulM_ok (.inl (.inr ⟨h, h'⟩))
theorem log_small {j : Int} (h0 : 0 < j) (h : j < 2 ^ 64) : j.natAbs.log2 < 9000 := by
  have h2 : j.natAbs < 2 ^ 64 := by omega
  have : j.natAbs.log2 < 64 := (Nat.log2_lt (by omega)).mpr h2
  omega
theorem divM_ok {i j : Int} (h0 : 0 < j) (h : j < 2 ^ 64) : divM i j = .ok (i / j) := by
  unfold divM
  rw [if_pos ⟨h0, log_small h0 h⟩]
theorem modM_ok {i j : Int} (h0 : 0 < j) : modM i j = .ok (i % j) := by unfold modM; rw [if_pos h0]
theorem range1M_ok {n : Nat} (h : n < 2 ^ 62) : range1M (n : Int) = .ok (rangeZ 0 n) := by
  unfold range1M
  rw [if_pos ⟨by omega, by omega⟩]; simp
theorem range1M_int {j : Int} (h0 : 0 ≤ j) (h : j < 2 ^ 62) : range1M j = .ok (rangeZ 0 j.toNat) := by
  unfold range1M
  rw [if_pos ⟨by omega, by omega⟩]
theorem range2M_ok {i j : Int} (h1 : -(2 ^ 62) ≤ i) (h2 : i < 2 ^ 62) (h3 : -(2 ^ 62) ≤ j) (h4 : j < 2 ^ 62) : range2M i j = .ok (rangeZ i (j - i).toNat) := by
  unfold range2M
  rw [if_pos ⟨⟨h1, h2⟩, ⟨h3, h4⟩⟩]
theorem appM_ok {xs : List α} {a : α} (h : xs.length < lim) : appM xs a = .ok (xs ++ [a]) := by unfold appM; rw [if_pos h]
theorem extM_ok {f : Int → Int → Int} {n : Int} {ns : List Int} : extM f (n :: ns) = .ok (ns.foldl f n) := by unfold extM; rfl
@[simp] theorem rangeZ_length (lo : Int) (n : Nat) : (rangeZ lo n).length = n := by simp [rangeZ]
theorem rangeZ_mem {lo : Int} {n : Nat} {x : Int} : x ∈ rangeZ lo n ↔ lo ≤ x ∧ x < lo + n := by
  simp only [rangeZ, List.mem_map, List.mem_range]
  constructor
  · rintro ⟨a, h, rfl⟩; omega
  · intro h; exact ⟨(x - lo).toNat, by omega, by omega⟩
theorem rangeZ_get {lo : Int} {n i : Nat} (h : i < n) : (rangeZ lo n)[i]? = some (lo + i) := by simp [rangeZ, h]
theorem cutD_take {xs : List α} {n : Nat} : cutD xs none (some (n : Int)) = xs.take n := by
  unfold cutD
  rw [HT.sIx_none, HT.sIx_nat, Nat.sub_zero, List.drop_zero]
  by_cases h : n ≤ xs.length
  · rw [Nat.min_eq_left h]
  · rw [Nat.min_eq_right (by omega), List.take_of_length_le (Nat.le_refl _), List.take_of_length_le (by omega)]
theorem cutD_drop {xs : List α} {n : Nat} : cutD xs (some (n : Int)) none = xs.drop n := by
  unfold cutD
  rw [HT.sIx_none, HT.sIx_nat]
  by_cases h : n ≤ xs.length
  · rw [Nat.min_eq_left h, List.take_of_length_le (by simp)]
  · rw [Nat.min_eq_right (by omega), List.drop_of_length_le (Nat.le_refl _), List.drop_of_length_le (by omega)]
    simp
end
end BH

set_option maxRecDepth 100000
set_option maxHeartbeats 1000000
namespace BH
open PySem PySem.Spec PyProof.Rows L2
/-! ### draws -/
def Dk (d : List Int) : Prop := d.length = 3
theorem Dk.get {d : List Int} (h : Dk d) : ∃ g m t, d = [g, m, t] := by
  match d, h with
  | [g, m, t], _ => exact ⟨g, m, t, rfl⟩
theorem draw_ok {d : List Int} {n : Int} (h : Dk d) (h0 : 0 < n) (hn : n < 2 ^ 64) : Ok (S_law_draw d n) fun r => 0 ≤ r.1 ∧ r.1 < n ∧ Dk r.2 := by
  obtain ⟨g, m, t, rfl⟩ := h.get
  have e0 : ∀ g m t : Int, ixM [g, m, t] 0 = .ok g := fun _ _ _ => ixM_int (by decide) rfl
  have e1 : ∀ g m t : Int, ixM [g, m, t] 1 = .ok m := fun _ _ _ => ixM_int (by decide) rfl
  have e2 : ∀ g m t : Int, ixM [g, m, t] 2 = .ok t := fun _ _ _ => ixM_int (by decide) rfl
  have s0 : ∀ g m t q : Int, setM [g, m, t] 0 q = .ok [q, m, t] := fun _ _ _ _ => setM_nat (n := 0) (by simp)
  have s2 : ∀ g m t q : Int, setM [g, m, t] 2 q = .ok [g, m, q] := fun _ _ _ _ => setM_nat (n := 2) (by simp)
  unfold S_law_draw
  simp only [e0, e1, e2, s0, s2, M.ok_bind, modM_ok h0, divM_ok h0 hn]
  refine ok_ite (fun _ => ok_ret ⟨Int.emod_nonneg _ (by omega), Int.emod_lt_of_pos _ h0, rfl⟩) fun _ => ?_
  rw [mulM_r (by omega) (by omega)]
  simp only [M.ok_bind]
  rw [mulM_r (by omega) (by omega)]
  exact ok_ret ⟨Int.emod_nonneg _ (by omega), Int.emod_lt_of_pos _ h0, rfl⟩
theorem pick_ok {α : Type} {d : List Int} {xs : List α} (h : Dk d) (h0 : xs ≠ []) (hl : xs.length ≤ lim) : Ok (S_law_pick d xs) fun r => r.1 ∈ xs ∧ Dk r.2 := by
  unfold S_law_pick
  have : 0 < xs.length := List.length_pos_iff.mpr h0
  refine ok_bind (draw_ok h (by omega) (by unfold lim at hl; omega)) fun r hr => ?_
  refine ok_bind (ok_ix hr.1 hr.2.1) fun a ha => ok_ret ⟨ha.1, hr.2.2⟩
theorem deck_ok (ns : List Int) : Ok (S_law_deck ns) Dk := by
  unfold S_law_deck
  refine ok_bind (P := fun _ => True) (ok_forI (fun _ => True) (fun a s _ _ => ?_) trivial) fun s _ => ok_ret rfl
  refine ok_bind (P := fun _ => True) (ok_ite (fun _ => ok_ret trivial) fun _ => ok_ret trivial) fun _ _ => ok_ret trivial
/-! ### elimination -/
theorem mulM_big {i j : Int} {a b : Nat} (hi : i.natAbs < 2 ^ a) (hj : j.natAbs < 2 ^ b) (h : a + b < 1000000) : mulM i j = .ok (i * j) := by
  have l : ∀ {n k : Nat}, n < 2 ^ k → n.log2 ≤ k := fun {n k} h => by
    by_cases z : n = 0
    · subst z; simp
    · exact Nat.le_of_lt ((Nat.log2_lt z).mpr h)
  refine mulM_ok (.inr ?_)
  have := l hi
  have := l hj
  omega
def ex (E n : Nat) : Nat := (E + 1) * 2 ^ n - 1
theorem ex_step (E n : Nat) : ex E (n + 1) = ex E n + ex E n + 1 := by
  unfold ex
  have : 0 < (E + 1) * 2 ^ n := Nat.mul_pos (by omega) (Nat.pow_pos (by decide))
  rw [Nat.pow_succ, ← Nat.mul_assoc]
  omega
theorem ex_le {E n : Nat} (hE : E ≤ 1000) (hn : n ≤ 8) : ex E n ≤ 300000 := by
  unfold ex
  have h1 : 2 ^ n ≤ 2 ^ 8 := Nat.pow_le_pow_right (by decide) hn
  have h2 : (E + 1) * 2 ^ n ≤ 1001 * 2 ^ 8 := Nat.mul_le_mul (by omega) h1
  omega
/-- rows of one length, their numbers below a power of two -/
def Lim (kd e : Nat) (W : List (List Int)) : Prop := ∀ r ∈ W, r.length = kd ∧ ∀ x ∈ r, x.natAbs < 2 ^ e
theorem sub_big {a b c d : Int} {e : Nat} (ha : a.natAbs < 2 ^ e) (hb : b.natAbs < 2 ^ e) (hc : c.natAbs < 2 ^ e) (hd : d.natAbs < 2 ^ e) : (a * b - c * d).natAbs < 2 ^ (e + e + 1) := by
  have h1 : (a * b).natAbs < 2 ^ (e + e) := by
    rw [Int.natAbs_mul, Nat.pow_add]
    exact Nat.mul_lt_mul'' ha hb
  have h2 : (c * d).natAbs < 2 ^ (e + e) := by
    rw [Int.natAbs_mul, Nat.pow_add]
    exact Nat.mul_lt_mul'' hc hd
  rw [Nat.pow_succ]
  omega
theorem get_of {α : Type} {xs : List α} {n : Nat} (h : n < xs.length) : ∃ a, xs[n]? = some a ∧ a ∈ xs := ⟨xs[n], List.getElem?_eq_getElem h, List.getElem_mem h⟩
/-- a row less a multiple of the lead -/
def redZ (row lead : List Int) (j : Nat) : List Int := (List.zip row lead).map fun p => p.1 * lead.getD j 0 - p.2 * row.getD j 0
theorem redZ_len {row lead : List Int} {j kd : Nat} (h : row.length = kd) (h' : lead.length = kd) : (redZ row lead j).length = kd := by simp [redZ, h, h']
theorem red_ok {row lead : List Int} {j kd e : Nat} (hr : row.length = kd ∧ ∀ x ∈ row, x.natAbs < 2 ^ e) (hl : lead.length = kd ∧ ∀ x ∈ lead, x.natAbs < 2 ^ e) (hj : j < kd) (hk : kd ≤ 1000) (he : e ≤ 300000) :
    compP (fun (a : Int × Int) => ixM lead (j : Int) >>= fun x => mulM a.1 x >>= fun y => ixM row (j : Int) >>= fun z => mulM a.2 z >>= fun w => .ok (some (y - w))) (List.zip row lead) = .ok (redZ row lead j) := by
  obtain ⟨l, h1, h1'⟩ := get_of (xs := lead) (n := j) (by omega)
  obtain ⟨r, h2, h2'⟩ := get_of (xs := row) (n := j) (by omega)
  have d1 : lead.getD j 0 = l := by simp [List.getD, h1]
  have d2 : row.getD j 0 = r := by simp [List.getD, h2]
  have : redZ row lead j = (List.zip row lead).map fun p => p.1 * l - p.2 * r := by simp only [redZ, d1, d2]
  rw [this]
  refine compP_map (fun p : Int × Int => p.1 * l - p.2 * r) (fun a ha => ?_) (by simp [hr.1, hl.1, lim]; omega)
  have ha1 : a.1 ∈ row := (List.of_mem_zip ha).1
  have ha2 : a.2 ∈ lead := (List.of_mem_zip ha).2
  rw [ixM_nat h1, ixM_nat h2]
  simp only [M.ok_bind]
  rw [mulM_big (hr.2 _ ha1) (hl.2 _ h1') (by omega), mulM_big (hl.2 _ ha2) (hr.2 _ h2') (by omega)]
  rfl
theorem redZ_lim {row lead : List Int} {j kd e : Nat} (hr : row.length = kd ∧ ∀ x ∈ row, x.natAbs < 2 ^ e) (hl : lead.length = kd ∧ ∀ x ∈ lead, x.natAbs < 2 ^ e) (hj : j < kd) : (redZ row lead j).length = kd ∧ ∀ x ∈ redZ row lead j, x.natAbs < 2 ^ (e + e + 1) := by
  refine ⟨redZ_len hr.1 hl.1, fun x hx => ?_⟩
  obtain ⟨p, hp, rfl⟩ := List.mem_map.mp hx
  obtain ⟨l, h1, h1'⟩ := get_of (xs := lead) (n := j) (by omega)
  obtain ⟨r, h2, h2'⟩ := get_of (xs := row) (n := j) (by omega)
  have d1 : lead.getD j 0 = l := by simp [List.getD, h1]
  have d2 : row.getD j 0 = r := by simp [List.getD, h2]
  rw [d1, d2]
  exact sub_big (hr.2 _ (List.of_mem_zip hp).1) (hl.2 _ h1') (hl.2 _ (List.of_mem_zip hp).2) (hr.2 _ h2')
theorem Lim.mono {kd e e' : Nat} {W : List (List Int)} (h : Lim kd e W) (he : e ≤ e') : Lim kd e' W := fun r hr => ⟨(h r hr).1, fun x hx => Nat.lt_of_lt_of_le ((h r hr).2 x hx) (Nat.pow_le_pow_right (by decide) he)⟩
/-- the place of the first row with a weight, if any -/
def leadsZ (W : List (List Int)) (j : Nat) : List Int := (rangeZ 0 W.length).filter fun i => !eqD ((W.getD i.toNat []).getD j 0) 0
theorem leads_ok {W : List (List Int)} {j kd e : Nat} (h : Lim kd e W) (hj : j < kd) (hl : W.length ≤ 1000) : compP (fun (a : Int) => ixM W a >>= fun x => ixM x (j : Int) >>= fun y => if (!eqD y (0 : Int)) = true then (.ok (some a)) else (.ok none)) (rangeZ 0 W.length) = .ok (leadsZ W j) := by
  have e1 : leadsZ W j = (rangeZ 0 W.length).filterMap fun i => if (!eqD ((W.getD i.toNat []).getD j 0) 0) = true then some i else none := by
    unfold leadsZ
    rw [← List.filterMap_eq_filter]
    rfl
  rw [e1]
  refine compP_ok _ (fun a ha => ?_) (Nat.le_trans (List.length_filterMap_le _ _) (by simp [lim]; omega))
  have hm := rangeZ_mem.mp ha
  obtain ⟨r, h1, h1'⟩ := get_of (xs := W) (n := a.toNat) (by omega)
  obtain ⟨y, h2, h2'⟩ := get_of (xs := r) (n := j) (by rw [(h r h1').1]; exact hj)
  rw [ixM_int (by omega) h1, M.ok_bind, ixM_nat h2, M.ok_bind]
  have d : (W.getD a.toNat []).getD j 0 = y := by simp [List.getD, h1, h2]
  rw [d]
  split <;> rfl
theorem leads_mem {W : List (List Int)} {j : Nat} {i : Int} (h : i ∈ leadsZ W j) : 0 ≤ i ∧ i < W.length := by
  have := rangeZ_mem.mp (List.mem_filter.mp h).1
  omega
/-- one kind: what is left, one more found or not -/
theorem rank_turn {W : List (List Int)} {j kd e n : Nat} (h : Lim kd e W) (hj : j < kd) (hk : kd ≤ 1000) (he : e ≤ 300000) (hl : W.length ≤ 1000) :
    Ok (range1M ((W).length : Int) >>= fun rng11 =>
  compP (fun (a12 : Int) => ixM W a12 >>= fun it13 =>
  ixM it13 (j : Int) >>= fun it14 =>
  if (!eqD it14 (0 : Int)) = true then (.ok (some a12)) else (.ok none)) rng11 >>= fun xs15 =>
  (if (!eqD xs15 ([] : List Int)) = true then (ixM xs15 (0 : Int) >>= fun it19 =>
  ixM W it19 >>= fun it20 =>
  ixM xs15 (0 : Int) >>= fun it21 =>
  ixM xs15 (0 : Int) >>= fun it22 =>
  lenG ((cutD W none (some it21)) ++ (cutD W (some (it22 + (1 : Int))) none)) >>= fun cat23 =>
  compP (fun (a24 : List Int) => compP (fun (a25 : Int × Int) => ixM ((it20, ((n : Int) + (1 : Int))).1) (j : Int) >>= fun it26 =>
  mulM a25.1 it26 >>= fun mul27 =>
  ixM a24 (j : Int) >>= fun it28 =>
  mulM a25.2 it28 >>= fun mul29 =>
  .ok (some (mul27 - mul29))) (List.zip a24 ((it20, ((n : Int) + (1 : Int))).1)) >>= fun xs30 =>
  .ok (some xs30)) cat23 >>= fun xs31 =>
  .ok (xs31, (it20, ((n : Int) + (1 : Int))).2)) else (.ok (W, (n : Int)))) >>= fun s16 =>
  .ok (s16.1, s16.2)) fun s => (leadsZ W j = [] ∧ s = (W, (n : Int))) ∨ (∃ i : Nat, i < W.length ∧ s.2 = (n : Int) + 1 ∧ (leadsZ W j).head? = some (i : Int) ∧ s.1 = (W.take i ++ W.drop (i + 1)).map fun row => redZ row (W.getD i []) j) := by
  rw [range1M_ok (by omega), M.ok_bind, leads_ok h hj hl, M.ok_bind]
  refine ok_bind (P := fun s => (leadsZ W j = [] ∧ s = (W, (n : Int))) ∨ (∃ i : Nat, i < W.length ∧ s.2 = (n : Int) + 1 ∧ (leadsZ W j).head? = some (i : Int) ∧ s.1 = (W.take i ++ W.drop (i + 1)).map fun row => redZ row (W.getD i []) j)) ?_ fun s hs => ok_ret hs
  cases hz : leadsZ W j with
  | nil => exact ok_ret (.inl ⟨rfl, rfl⟩)
  | cons i is =>
    have hi : 0 ≤ i ∧ i < W.length := leads_mem (j := j) (by rw [hz]; simp)
    obtain ⟨k, rfl⟩ := Int.eq_ofNat_of_zero_le hi.1
    have hkW : k < W.length := by omega
    obtain ⟨ld, h1, h1'⟩ := get_of hkW
    have c : (!eqD ((k : Int) :: is) ([] : List Int)) = true := by simp [eqD]
    rw [if_pos c]
    simp only [ixM_zero, M.ok_bind, ixM_nat h1]
    have ec : ((k : Int) + 1) = ((k + 1 : Nat) : Int) := by omega
    rw [ec, cutD_take, cutD_drop, lenG_ok (by simp [lim]; omega)]
    simp only [M.ok_bind]
    have sub : ∀ r ∈ W.take k ++ W.drop (k + 1), r ∈ W := fun r hr => by
      rcases List.mem_append.mp hr with q | q
      · exact List.mem_of_mem_take q
      · exact List.mem_of_mem_drop q
    rw [compP_map (fun row => redZ row ld j) (fun r hr => ?_) (by simp [lim]; omega)]
    · refine ok_ret (.inr ⟨k, hkW, by simp, rfl, ?_⟩)
      have : W.getD k [] = ld := by simp [List.getD, h1]
      rw [this]
    · rw [red_ok (h r (sub r hr)) (h ld h1') hj hk he]
      rfl
theorem rank_ok {W : List (List Int)} {kd E : Nat} (h : Lim kd E W) (h0 : W ≠ []) (hk : kd ≤ 8) (hE : E ≤ 1000) (hl : W.length ≤ 1000) : Ok (S_law_rank W) fun r => 0 ≤ r ∧ r ≤ kd := by
  unfold S_law_rank
  obtain ⟨r0, W0, rfl⟩ : ∃ r l, W = r :: l := by cases W with
    | nil => exact absurd rfl h0
    | cons r l => exact ⟨r, l, rfl⟩
  rw [show List.map (fun (a1 : List Int) => a1) (r0 :: W0) = r0 :: W0 from List.map_id _, lenG_ok (by unfold lim; omega), M.ok_bind, ixM_zero, M.ok_bind, range1M_ok (by rw [(h r0 (by simp)).1]; omega), M.ok_bind]
  have hr0 := (h r0 (by simp)).1
  refine ok_bind (ok_for (fun i (s : List (List Int) × Int) => ∃ n : Nat, s.2 = (n : Int) ∧ n ≤ i ∧ Lim kd (ex E n) s.1 ∧ s.1.length ≤ 1000) _ 0 (fun i a s hi hs => ?_) _ ⟨0, rfl, Nat.le_refl _, ?_, hl⟩) fun s hs => ok_ret ?_
  · have hlt : i < r0.length := by have := (List.getElem?_eq_some_iff.mp hi).1; simpa using this
    rw [rangeZ_get hlt] at hi
    have hi2 : i < kd := by rw [← hr0]; exact hlt
    cases hi
    obtain ⟨left, found⟩ := s
    obtain ⟨n, h2, h3, h4, h5⟩ := hs
    simp only at h2 h4 h5
    subst h2
    rw [Int.zero_add]
    refine ok_imp (rank_turn (n := n) h4 hi2 (by omega) (ex_le hE (by omega)) h5) fun s q => ?_
    rcases q with ⟨_, rfl⟩ | ⟨k, q1, q2, _, q3⟩
    · exact ⟨n, rfl, by omega, h4, h5⟩
    · refine ⟨n + 1, by rw [q2]; simp, by omega, ?_, ?_⟩
      · rw [q3, ex_step]
        intro r hr
        obtain ⟨row, hrow, rfl⟩ := List.mem_map.mp hr
        obtain ⟨ld, h6, h6'⟩ := get_of q1
        have : left.getD k [] = ld := by simp [List.getD, h6]
        rw [this]
        refine redZ_lim (h4 row ?_) (h4 ld h6') hi2
        rcases List.mem_append.mp hrow with q | q
        · exact List.mem_of_mem_take q
        · exact List.mem_of_mem_drop q
      · rw [q3]; simp; omega
  · have : ex E 0 = E := by unfold ex; omega
    rw [this]; exact h
  · obtain ⟨n, h2, h3, _⟩ := hs
    simp only [rangeZ_length, Nat.zero_add] at h3
    omega
end BH

set_option maxRecDepth 100000
set_option maxHeartbeats 1000000
namespace BH
open PySem PySem.Spec PyProof.Rows L2
theorem cutD_init {α : Type} {xs : List α} : cutD xs none (some (-1)) = xs.take (xs.length - 1) := by
  unfold cutD
  rw [HT.sIx_none, Nat.sub_zero, List.drop_zero]
  have : HT.sIx xs.length xs.length (some (-1)) = xs.length - 1 := by
    show (if (-1 : Int) < 0 then ((-1 : Int) + (xs.length : Int)).toNat else min (-1 : Int).toNat xs.length) = _
    rw [if_pos (by decide)]; omega
  rw [this]
theorem cut_ok {W : List (List Int)} {kd : Nat} (h : Lim kd 3 W) (h0 : W ≠ []) (h1 : 1 ≤ kd) (hk : kd ≤ 8) (hl : W.length ≤ 1000) :
    Ok (S_law_cut W) fun W' => ∃ k, 1 ≤ k ∧ k ≤ kd ∧ min kd 3 ≤ k ∧ W' = W.map (·.take k) ∧ Ok (S_law_rank W') fun r => (k : Int) - r ≤ 3 := by
  unfold S_law_cut
  have lm : ∀ k, k ≤ kd → Lim k 3 (W.map (·.take k)) := fun k hk r hr => by
    obtain ⟨q, hq, rfl⟩ := List.mem_map.mp hr
    refine ⟨by simp [(h q hq).1]; omega, fun x hx => (h q hq).2 x (List.mem_of_mem_take hx)⟩
  have hne : ∀ k : Nat, W.map (·.take k) ≠ [] := fun k => by simpa using h0
  refine ok_bind (ok_whileF (fun s => ∃ k, 1 ≤ k ∧ k ≤ kd ∧ min kd 3 ≤ k ∧ s = W.map (·.take k)) (fun W' => ∃ k, 1 ≤ k ∧ k ≤ kd ∧ min kd 3 ≤ k ∧ W' = W.map (·.take k) ∧ Ok (S_law_rank W') fun r => (k : Int) - r ≤ 3) (fun s => (s.headD []).length) ?_ ⟨kd, h1, Nat.le_refl _, by omega, ?_⟩ ?_) fun s hs => ok_ret hs
  · rintro s ⟨k, k1, k2, k3, rfl⟩
    obtain ⟨r0, W0, e0⟩ : ∃ r l, W.map (·.take k) = r :: l := by
      cases q : W.map (·.take k) with
      | nil => exact absurd q (hne k)
      | cons r l => exact ⟨r, l, rfl⟩
    have hr0 : r0.length = k := (lm k k2 r0 (by rw [e0]; simp)).1
    have hrk := rank_ok (lm k k2) (hne k) (by omega) (by omega) (by simpa using hl)
    obtain ⟨ρ, q1, q2, q3⟩ := hrk
    have : ixM (W.map (·.take k)) 0 = .ok r0 := by rw [e0]; exact ixM_zero
    simp only [this, q1, M.ok_bind]
    refine ok_ret ?_
    rw [hr0]
    split
    · rename_i hc
      have hc := of_decide_eq_true hc
      rw [lenG_ok (by simp [lim]; omega)]
      refine ok_ret ⟨⟨k - 1, by omega, by omega, by omega, ?_⟩, ?_⟩
      · rw [List.map_map]
        refine List.map_congr_left fun r hr => ?_
        simp only [Function.comp, cutD_init]
        rw [List.take_take, List.length_take, (h r hr).1]
        congr 1; omega
      · rw [e0]
        simp [cutD_init, hr0]; omega
    · rename_i hc
      have hc : ¬ (3 : Int) < (k : Int) - ρ := fun q => hc (decide_eq_true q)
      exact ⟨k, k1, k2, k3, rfl, ok_ret (by omega)⟩
  · rw [List.map_congr_left (g := id)]
    · simp
    · intro r hr
      rw [List.take_of_length_le (by rw [(h r hr).1]; exact Nat.le_refl _)]; rfl
  · obtain ⟨r0, W0, e0⟩ : ∃ r l, W = r :: l := by
      cases W with
      | nil => exact absurd rfl h0
      | cons r l => exact ⟨r, l, rfl⟩
    have hr0 : r0.length = kd := (h r0 (by rw [e0]; simp)).1
    rw [e0]
    show r0.length < 10 ^ 60
    rw [hr0]
    exact Nat.lt_of_le_of_lt hk (by decide)
/-- scales as drawn -/
structure Sc (W : List (List Int)) (kd : Nat) : Prop where
  ne : W ≠ []
  len : W.length ≤ 6
  k1 : 1 ≤ kd
  k6 : kd ≤ 6
  mat : ∀ r ∈ W, r.length = kd ∧ ∀ x ∈ r, 0 ≤ x ∧ x ≤ 6
  col : ∀ j, j < kd → ∃ r ∈ W, ∃ x, r[j]? = some x ∧ 0 < x
  one : W.length = 1 → kd ≤ 4
  bin : W.length ≠ 1 → ∀ r ∈ W, ∀ x ∈ r, x ≤ 1
  free : W.length ≠ 1 → Ok (S_law_rank W) fun r => (kd : Int) - r ≤ 3
theorem b2i_01 (b : Bool) : 0 ≤ b2i b ∧ b2i b ≤ 1 := by cases b <;> decide
/-- the second way: a table's sums -/
theorem table_ok (d : List Int) (wide : Int) (hw : wide = 2 ∨ wide = 3) : Ok (compP (fun (a9 : Int) => range1M ((2 : Int) * wide) >>= fun rng10 =>
  compP (fun (a11 : Int) => divM a11 wide >>= fun quo12 =>
  .ok (some (b2i (eqD quo12 a9)))) rng10 >>= fun xs13 =>
  .ok (some xs13)) (rangeZ 0 ((2 : Int)).toNat) >>= fun xs14 =>
  range1M wide >>= fun rng15 =>
  compP (fun (a16 : Int) => range1M ((2 : Int) * wide) >>= fun rng17 =>
  compP (fun (a18 : Int) => modM a18 wide >>= fun rem19 =>
  .ok (some (b2i (eqD rem19 a16)))) rng17 >>= fun xs20 =>
  .ok (some xs20)) rng15 >>= fun xs21 =>
  lenG (xs14 ++ xs21) >>= fun cat22 =>
  .ok (cat22, d)) fun p => (∃ kd, Sc p.1 kd) ∧ p.2 = d := by
  have mk : ∀ (W : List (List Int)) (kd : Nat) (ρ : Int), W ≠ [] → W.length ≤ 6 → 2 ≤ W.length → 1 ≤ kd → kd ≤ 6 → (W.all fun r => r.length == kd && r.all fun x => decide (0 ≤ x) && decide (x ≤ 1)) = true → ((List.range kd).all fun j => W.any fun r => decide (0 < r.getD j 0)) = true → S_law_rank W = .ok ρ → (kd : Int) - ρ ≤ 3 → Sc W kd := by
    intro W kd ρ h0 h1 h2 h3 h4 h5 h6 h7 h8
    simp only [List.all_eq_true, Bool.and_eq_true, decide_eq_true_eq, beq_iff_eq, List.any_eq_true, List.mem_range] at h5 h6
    refine ⟨h0, h1, h3, h4, fun r hr => ⟨(h5 r hr).1, fun x hx => ⟨((h5 r hr).2 x hx).1, by have := ((h5 r hr).2 x hx).2; omega⟩⟩, fun j hj => ?_, fun q => by omega, fun _ r hr x hx => ((h5 r hr).2 x hx).2, fun _ => ⟨ρ, h7, h8⟩⟩
    obtain ⟨r, hr, q⟩ := h6 j hj
    have hl : j < r.length := by rw [(h5 r hr).1]; exact hj
    refine ⟨r, hr, r[j], List.getElem?_eq_getElem hl, ?_⟩
    simpa [List.getD, List.getElem?_eq_getElem hl] using q
  have t2 := mk [[1, 1, 0, 0], [0, 0, 1, 1], [1, 0, 1, 0], [0, 1, 0, 1]] 4 3 (by decide) (by decide) (by decide) (by decide) (by decide) (by decide) (by decide) (by kernel_rfl) (by decide)
  have t3 := mk [[1, 1, 1, 0, 0, 0], [0, 0, 0, 1, 1, 1], [1, 0, 0, 1, 0, 0], [0, 1, 0, 0, 1, 0], [0, 0, 1, 0, 0, 1]] 6 4 (by decide) (by decide) (by decide) (by decide) (by decide) (by decide) (by decide) (by kernel_rfl) (by decide)
  rcases hw with rfl | rfl
  · exact ⟨([[1, 1, 0, 0], [0, 0, 1, 1], [1, 0, 1, 0], [0, 1, 0, 1]], d), by kernel_rfl, ⟨4, t2⟩, rfl⟩
  · exact ⟨([[1, 1, 1, 0, 0, 0], [0, 0, 0, 1, 1, 1], [1, 0, 0, 1, 0, 0], [0, 1, 0, 0, 1, 0], [0, 0, 1, 0, 0, 1]], d), by kernel_rfl, ⟨6, t3⟩, rfl⟩
end BH

set_option maxRecDepth 100000
set_option maxHeartbeats 1000000
namespace BH
open PySem PySem.Spec PyProof.Rows L2
/-- draws, one for each item -/
theorem draws_ok {α : Type} {xs : List α} {d : List Int} {n : Int} (h : Dk d) (h0 : 0 < n) (hn : n < 2 ^ 64) (hl : xs.length ≤ lim) (f : Int → Int) :
    Ok (compS (fun (_ : α) (s : List Int) => S_law_draw s n >>= fun r => .ok (some (f r.1), r.2)) xs d) fun p => p.1.length = xs.length ∧ (∀ b ∈ p.1, ∃ v, 0 ≤ v ∧ v < n ∧ b = f v) ∧ Dk p.2 :=
  ok_compS Dk (fun b => ∃ v, 0 ≤ v ∧ v < n ∧ b = f v) (fun a s _ hs => ok_bind (draw_ok hs h0 hn) fun r hr => ok_ret ⟨⟨_, rfl, r.1, hr.1, hr.2.1, rfl⟩, hr.2.2⟩) h hl
theorem one_row {d : List Int} {n : Int} {rs : List Int} (h1 : 1 ≤ rs.length) (h4 : rs.length ≤ 4) (hr : ∀ b ∈ rs, 1 ≤ b ∧ b ≤ 6) : Sc [rs] rs.length := by
  refine ⟨by simp, by simp, h1, by omega, fun r h => ?_, fun j hj => ?_, fun _ => h4, fun q => absurd rfl q, fun q => absurd rfl q⟩
  · rw [List.mem_singleton] at h; subst h
    exact ⟨rfl, fun x hx => by have := hr x hx; omega⟩
  · exact ⟨rs, by simp, rs[j], List.getElem?_eq_getElem hj, by have := hr rs[j] (List.getElem_mem hj); omega⟩
/-- rows of 0 and 1 -/
def Bin (kd n : Nat) (W : List (List Int)) : Prop := W.length = n ∧ ∀ r ∈ W, r.length = kd ∧ ∀ x ∈ r, 0 ≤ x ∧ x ≤ 1
theorem sum_nn : ∀ {xs : List Int}, (∀ x ∈ xs, 0 ≤ x) → 0 ≤ xs.sum
  | [], _ => by simp
  | a :: xs, h => by
    have h1 := h a (by simp)
    have h2 := sum_nn (xs := xs) fun x hx => h x (by simp [hx])
    simp only [List.sum_cons]; omega
theorem sum_all0 : ∀ {xs : List Int}, (∀ x ∈ xs, x = 0) → xs.sum = 0
  | [], _ => by simp
  | a :: xs, h => by
    have h1 := h a (by simp)
    have h2 := sum_all0 (xs := xs) fun x hx => h x (by simp [hx])
    simp only [List.sum_cons]; omega
theorem sum_zero {xs : List Int} (h : ∀ x ∈ xs, 0 ≤ x) (hs : xs.sum = 0) : ∀ x ∈ xs, x = 0 := by
  induction xs with
  | nil => simp
  | cons a xs ih =>
    have h1 : 0 ≤ a := h a (by simp)
    have h2 : 0 ≤ xs.sum := sum_nn (fun x hx => h x (by simp [hx]))
    simp only [List.sum_cons] at hs
    intro x hx
    rcases List.mem_cons.mp hx with rfl | hx
    · omega
    · exact ih (fun x hx => h x (by simp [hx])) (by omega) x hx
theorem col_sum {W : List (List Int)} {kd k : Nat} (hr : ∀ r ∈ W, r.length = kd) (hk : k < kd) (hl : W.length ≤ 1000) : compP (fun (a40 : List Int) => ixM a40 (k : Int) >>= fun it41 => .ok (some it41)) W = .ok (W.map (·.getD k 0)) := by
  refine compP_map (fun r : List Int => r.getD k 0) (fun r h => ?_) (by unfold lim; omega)
  obtain ⟨y, h2, _⟩ := get_of (xs := r) (n := k) (by rw [hr r h]; exact hk)
  rw [ixM_nat h2]
  simp [List.getD, h2]
theorem fix_ok {kd n : Nat} (h0 : 0 < n) (hn : n ≤ 100) (hk : kd ≤ 100) {d : List Int} {W : List (List Int)} (hd : Dk d) (hW : Bin kd n W) :
    Ok (lendM (forM' (fixM (fun (k35 : Int) (s36 : List Int) (w37 : List (List Int)) => compP (fun (a40 : List Int) => ixM a40 k35 >>= fun it41 =>
  .ok (some it41)) w37 >>= fun xs42 =>
  .ok (eqD (xs42.sum) (0 : Int))) (fun (k35 : Int) (s36 : List Int) (w37 : List (List Int)) => S_law_draw s36 (n : Int) >>= fun r43 =>
  .ok (r43.1, r43.2))) (rangeZ 0 kd) (d, W))) fun q => Dk q.1 ∧ Bin kd n q.2 ∧ ∀ j, j < kd → ∃ r ∈ q.2, ∃ x, r[j]? = some x ∧ 0 < x := by
  have key := ok_for (f := fixM (fun (k35 : Int) (s36 : List Int) (w37 : List (List Int)) => compP (fun (a40 : List Int) => ixM a40 k35 >>= fun it41 =>
      .ok (some it41)) w37 >>= fun xs42 =>
      .ok (eqD (xs42.sum) (0 : Int))) (fun (k35 : Int) (s36 : List Int) (w37 : List (List Int)) => S_law_draw s36 (n : Int) >>= fun r43 =>
      .ok (r43.1, r43.2))) (fun i (q : List Int × List (List Int)) => Dk q.1 ∧ Bin kd n q.2 ∧ ∀ j, j < i → ∃ r ∈ q.2, ∃ x, r[j]? = some x ∧ 0 < x) (rangeZ 0 kd) 0 (fun i a s hi hs => ?_) (d, W) ⟨hd, hW, fun j hj => absurd hj (Nat.not_lt_zero _)⟩
  · obtain ⟨q, e, h⟩ := key
    rw [e]
    simp only [rangeZ_length, Nat.zero_add] at h
    exact ok_ret h
  · have hlt : i < kd := by have := (List.getElem?_eq_some_iff.mp hi).1; simpa using this
    rw [rangeZ_get hlt] at hi
    cases hi
    obtain ⟨sd, w⟩ := s
    obtain ⟨h1, ⟨h2, h3⟩, h4⟩ := hs
    simp only [Nat.zero_add] at h4 ⊢
    have h2 : w.length = n := h2
    unfold fixM
    simp only [Int.zero_add]
    rw [col_sum (fun r hr => (h3 r hr).1) hlt (by omega)]
    simp only [M.ok_bind]
    have nn : ∀ x ∈ w.map (·.getD i 0), 0 ≤ x := fun x hx => by
      obtain ⟨r, hr, rfl⟩ := List.mem_map.mp hx
      obtain ⟨y, q1, q2⟩ := get_of (xs := r) (n := i) (by rw [(h3 r hr).1]; exact hlt)
      simp only [List.getD, q1, Option.getD]
      exact ((h3 r hr).2 y q2).1
    refine ok_ite (fun hc => ?_) fun hc => ?_
    · refine ok_bind (P := fun (p : Int × List Int) => 0 ≤ p.1 ∧ p.1 < (n : Int) ∧ Dk p.2) (ok_bind (draw_ok h1 (by omega) (by omega)) fun r hr => ok_ret hr) fun p hp => ?_
      obtain ⟨k, e⟩ := Int.eq_ofNat_of_zero_le hp.1
      have hk2 : k < w.length := by omega
      obtain ⟨r, q1, q2⟩ := get_of hk2
      rw [e, ixM_nat q1, M.ok_bind]
      have hi2 : i < r.length := by rw [(h3 r q2).1]; exact hlt
      rw [setM_nat hi2, M.ok_bind, setM_nat hk2, M.ok_bind]
      have hset : ∀ r' ∈ w.set k (r.set i 1), r' ∈ w ∨ r' = r.set i 1 := fun r' hr' => List.mem_or_eq_of_mem_set hr'
      refine ok_ret ⟨hp.2.2, ⟨by simp [h2], fun r' hr' => ?_⟩, fun j hj => ?_⟩
      · rcases hset r' hr' with q | rfl
        · exact h3 r' q
        · refine ⟨by simp [(h3 r q2).1], fun x hx => ?_⟩
          rcases List.mem_or_eq_of_mem_set hx with q | rfl
          · exact (h3 r q2).2 x q
          · omega
      · by_cases ji : j = i
        · subst ji
          refine ⟨r.set j 1, ?_, 1, by rw [List.getElem?_set_self hi2], by omega⟩
          exact List.mem_iff_getElem?.mpr ⟨k, by rw [List.getElem?_set_self hk2]⟩
        · obtain ⟨r', hr', x, hx, hp'⟩ := h4 j (by omega)
          obtain ⟨k', hk'⟩ := List.mem_iff_getElem?.mp hr'
          by_cases kk : k' = k
          · subst kk
            rw [q1] at hk'; cases hk'
            refine ⟨r.set i 1, List.mem_iff_getElem?.mpr ⟨k', by rw [List.getElem?_set_self hk2]⟩, x, by rw [List.getElem?_set_ne (Ne.symm ji)]; exact hx, hp'⟩
          · exact ⟨r', List.mem_iff_getElem?.mpr ⟨k', by rw [List.getElem?_set_ne (Ne.symm kk)]; exact hk'⟩, x, hx, hp'⟩
    · refine ok_ret ⟨h1, ⟨h2, h3⟩, fun j hj => ?_⟩
      by_cases ji : j = i
      · subst ji
        have hc : (w.map (·.getD j 0)).sum ≠ 0 := eqD_false.mp hc
        refine Classical.byContradiction fun no => hc ?_
        have : ∀ x ∈ w.map (·.getD j 0), x = 0 := fun x hx => by
          obtain ⟨r, hr, rfl⟩ := List.mem_map.mp hx
          obtain ⟨y, q1, q2⟩ := get_of (xs := r) (n := j) (by rw [(h3 r hr).1]; exact hlt)
          simp only [List.getD, q1, Option.getD]
          have := ((h3 r hr).2 y q2).1
          by_cases z : y = 0
          · exact z
          · exact absurd ⟨r, hr, y, q1, by omega⟩ no
        exact sum_all0 this
      · exact h4 j (by omega)
theorem scale_ok {d : List Int} (h : Dk d) : Ok (S_law_scale d) fun p => (∃ kd, Sc p.1 kd) ∧ Dk p.2 := by
  unfold S_law_scale
  refine ok_bind (draw_ok h (by omega) (by omega)) fun r1 h1 => ?_
  refine ok_ite (fun _ => ?_) fun _ => ok_ite (fun _ => ?_) fun _ => ?_
  · refine ok_bind (draw_ok h1.2.2 (by omega) (by omega)) fun r2 h2 => ?_
    rw [range1M_int (by omega) (by omega), M.ok_bind]
    refine ok_bind (draws_ok (n := 6) h2.2.2 (by omega) (by omega) (by simp [lim]; omega) fun v => 1 + v) fun p hp => ok_ret ⟨⟨_, one_row (d := d) (n := 0) ?_ ?_ fun b hb => ?_⟩, hp.2.2⟩
    · rw [hp.1]; simp; omega
    · rw [hp.1]; simp; omega
    · obtain ⟨v, q1, q2, rfl⟩ := hp.2.1 b hb; omega
  · refine ok_bind (draw_ok h1.2.2 (by omega) (by omega)) fun r8 h8 => ?_
    refine ok_imp (table_ok r8.2 (2 + r8.1) (by omega)) fun p hp => ⟨hp.1, by rw [hp.2]; exact h8.2.2⟩
  · refine ok_bind (draw_ok h1.2.2 (by omega) (by omega)) fun r23 h23 => ?_
    refine ok_bind (draw_ok h23.2.2 (by omega) (by omega)) fun r24 h24 => ?_
    obtain ⟨a, ea⟩ := Int.eq_ofNat_of_zero_le (show 0 ≤ 2 + r23.1 by omega)
    obtain ⟨b, eb⟩ := Int.eq_ofNat_of_zero_le (show 0 ≤ 2 + r24.1 by omega)
    simp only [ea, eb]
    have ha : 2 ≤ a ∧ a ≤ 6 := by omega
    have hb : 2 ≤ b ∧ b ≤ 6 := by omega
    rw [range1M_ok (by omega), M.ok_bind]
    refine ok_bind (ok_compS Dk (fun r : List Int => r.length = a ∧ ∀ x ∈ r, 0 ≤ x ∧ x ≤ 1) (fun _ s _ hs => ?_) h24.2.2 (by simp [lim]; omega)) fun p33 h33 => ?_
    · refine ok_bind (P := fun p : List Int × List Int => (p.1.length = a ∧ ∀ x ∈ p.1, 0 ≤ x ∧ x ≤ 1) ∧ Dk p.2) ?_ fun p hp => ok_ret ⟨⟨_, rfl, hp.1⟩, hp.2⟩
      rw [range1M_ok (by omega), M.ok_bind]
      refine ok_bind (draws_ok (n := 2) hs (by omega) (by omega) (by simp [lim]; omega) fun v => v) fun p hp => ok_ret ⟨⟨by rw [hp.1]; simp, fun x hx => ?_⟩, hp.2.2⟩
      obtain ⟨v, q1, q2, rfl⟩ := hp.2.1 x hx; omega
    · rw [range1M_ok (by omega), M.ok_bind]
      refine ok_bind (fix_ok (n := b) (kd := a) (by omega) (by omega) (by omega) h33.2.2 ⟨by rw [h33.1]; simp, h33.2.1⟩) fun q hq => ?_
      obtain ⟨hq1, ⟨hq2, hq3⟩, hq4⟩ := hq
      refine ok_bind (cut_ok (kd := a) (fun r hr => ⟨(hq3 r hr).1, fun x hx => by have := (hq3 r hr).2 x hx; omega⟩) (by intro z; rw [z] at hq2; simp at hq2; omega) (by omega) (by omega) (by omega)) fun W' hW => ?_
      obtain ⟨k, k1, k2, k3, rfl, k4⟩ := hW
      rw [show List.map (fun (a46 : List Int) => a46) (q.2.map (·.take k)) = q.2.map (·.take k) from List.map_id _, lenG_ok (by simp [lim]; omega), M.ok_bind]
      refine ok_ret ⟨⟨k, ?_⟩, hq1⟩
      show Sc (q.2.map (·.take k)) k
      have lenW : (q.2.map (·.take k)).length = b := by simp [hq2]
      refine ⟨by intro z; rw [z] at lenW; simp at lenW; omega, by omega, k1, by omega, fun r hr => ?_, fun j hj => ?_, fun z => by omega, fun _ r hr x hx => ?_, fun _ => k4⟩
      · obtain ⟨r', hr', rfl⟩ := List.mem_map.mp hr
        refine ⟨by simp [(hq3 r' hr').1]; omega, fun x hx => by have := (hq3 r' hr').2 x (List.mem_of_mem_take hx); omega⟩
      · obtain ⟨r', hr', x, hx, hp⟩ := hq4 j (by omega)
        refine ⟨r'.take k, List.mem_map.mpr ⟨r', hr', rfl⟩, x, ?_, hp⟩
        rw [List.getElem?_take]; simp [hj, hx]
      · obtain ⟨r', hr', rfl⟩ := List.mem_map.mp hr
        have := (hq3 r' hr').2 x (List.mem_of_mem_take hx); omega
end BH

set_option maxRecDepth 100000
set_option maxHeartbeats 1000000
namespace BH
open PySem PySem.Spec PyProof.Rows L2
theorem ok_whileN {σ : Type} {c : σ → M Bool} {f : σ → M σ} {Q : σ → Prop} (P : Nat → σ → Prop) (h : ∀ n s, P n s → Ok (c s) fun b => if b = true then (∃ m, n = m + 1 ∧ Ok (f s) (P m)) else Q s) : ∀ (k n : Nat) (s : σ), P n s → n < k → Ok (whileM c f k s) Q
  | 0, _, s, _, hn => absurd hn (Nat.not_lt_zero _)
  | k + 1, n, s, p, hn => by
    unfold whileM
    refine ok_bind (h n s p) fun b hb => ?_
    cases b with
    | false => exact ok_ret hb
    | true =>
      obtain ⟨m, rfl, hb⟩ := hb
      exact ok_bind hb fun s' q => ok_whileN P h k m s' q (by omega)
theorem ok_whileNF {σ : Type} {c : σ → M Bool} {f : σ → M σ} {Q : σ → Prop} {s : σ} (P : Nat → σ → Prop) (n : Nat) (h : ∀ n s, P n s → Ok (c s) fun b => if b = true then (∃ m, n = m + 1 ∧ Ok (f s) (P m)) else Q s) (p : P n s) (hn : n < 10 ^ 60) : Ok (whileM c f FUEL s) Q :=
  ok_whileN P h FUEL n s p (by unfold FUEL; exact hn)
/-! ### sums -/
def dotZ (r h : List Int) : Int := ((List.zip r h).map fun p => p.1 * p.2).sum
def sumsZ (W : List (List Int)) (h : List Int) : List Int := W.map fun r => dotZ r h
@[simp] theorem sumsZ_length (W : List (List Int)) (h : List Int) : (sumsZ W h).length = W.length := by simp [sumsZ]
def Small (W : List (List Int)) : Prop := W.length ≤ 1000 ∧ ∀ r ∈ W, r.length ≤ 1000 ∧ ∀ x ∈ r, -(2 ^ 64) < x ∧ x < 2 ^ 64
theorem Sc.small {W : List (List Int)} {kd : Nat} (h : Sc W kd) : Small W := ⟨by have := h.len; omega, fun r hr => ⟨by have := (h.mat r hr).1; have := h.k6; omega, fun x hx => by have := (h.mat r hr).2 x hx; omega⟩⟩
theorem sums_ok {W : List (List Int)} {h : List Int} (hW : Small W) : S_law_sums W h = .ok (sumsZ W h) := by
  unfold S_law_sums
  rw [compP_map (fun r => dotZ r h) (fun r hr => ?_) (by have := hW.1; unfold lim; omega)]
  · rfl
  · rw [compP_map (fun p : Int × Int => p.1 * p.2) (fun p hp => ?_) (by rw [List.length_zip]; have := (hW.2 r hr).1; unfold lim; omega)]
    · rfl
    · have := (hW.2 r hr).2 p.1 (List.of_mem_zip hp).1
      rw [mulM_l this.1 this.2]; rfl
/-! ### heaps -/
theorem fold_le (S : List Int) : ∀ (s0 b : Int), S.foldl max s0 ≤ b ↔ s0 ≤ b ∧ ∀ s ∈ S, s ≤ b := by
  induction S with
  | nil => intro s0 b; simp
  | cons a S ih =>
    intro s0 b
    simp only [List.foldl_cons, ih, List.mem_cons, forall_eq_or_imp, Int.max_le, and_assoc]
theorem fold_ge (S : List Int) : ∀ (s0 b : Int), b ≤ S.foldl min s0 ↔ b ≤ s0 ∧ ∀ s ∈ S, b ≤ s := by
  induction S with
  | nil => intro s0 b; simp
  | cons a S ih =>
    intro s0 b
    simp only [List.foldl_cons, ih, List.mem_cons, forall_eq_or_imp, Int.le_min, and_assoc]
theorem fold_min_mem (S : List Int) : ∀ s0 : Int, S.foldl min s0 = s0 ∨ S.foldl min s0 ∈ S := by
  induction S with
  | nil => intro s0; exact .inl rfl
  | cons a S ih =>
    intro s0
    simp only [List.foldl_cons, List.mem_cons]
    rcases ih (min s0 a) with h | h
    · rw [h]; omega
    · exact .inr (.inr h)
theorem ext_max_ok {S : List Int} (h : S ≠ []) : Ok (extM max S) fun m => ∀ b, m ≤ b ↔ ∀ s ∈ S, s ≤ b := by
  cases S with
  | nil => exact absurd rfl h
  | cons a S => exact ⟨_, extM_ok, fun b => by rw [fold_le]; simp⟩
theorem ext_min_ok {S : List Int} (h : S ≠ []) : Ok (extM min S) fun m => (∀ b, b ≤ m ↔ ∀ s ∈ S, b ≤ s) ∧ m ∈ S := by
  cases S with
  | nil => exact absurd rfl h
  | cons a S => exact ⟨_, extM_ok, fun b => by rw [fold_ge]; simp, by
      rcases fold_min_mem S a with q | q
      · rw [q]; simp
      · simp [q]⟩
def HeapN (kd t : Nat) (hs : List Int) : Prop := hs.length = kd ∧ ∀ (j : Nat) (z : Int), hs[j]? = some z → 0 ≤ z ∧ z.toNat ≤ 8 / 2 ^ ((t + kd - 1 - j) / kd)
theorem div_step (kd t j : Nat) (h1 : 1 ≤ kd) (h8 : kd ≤ 8) (hj : j < kd) : (t + 1 + kd - 1 - j) / kd = (t + kd - 1 - j) / kd + (if j = t % kd then 1 else 0) := by
  have : kd = 1 ∨ kd = 2 ∨ kd = 3 ∨ kd = 4 ∨ kd = 5 ∨ kd = 6 ∨ kd = 7 ∨ kd = 8 := by omega
  rcases this with rfl | rfl | rfl | rfl | rfl | rfl | rfl | rfl <;> split <;> omega
theorem heapN_step {kd t : Nat} {hs : List Int} (h1 : 1 ≤ kd) (h8 : kd ≤ 8) (h : HeapN kd t hs) (ha : t % kd < hs.length) : HeapN kd (t + 1) (hs.set (t % kd) (hs[t % kd] / 2)) := by
  refine ⟨by rw [List.length_set]; exact h.1, fun j z hz => ?_⟩
  have hj : j < kd := by
    have := (List.getElem?_eq_some_iff.mp hz).1
    rw [List.length_set, h.1] at this
    exact this
  rw [div_step kd t j h1 h8 hj]
  by_cases e : j = t % kd
  · subst e
    rw [List.getElem?_set_self ha] at hz
    cases hz
    obtain ⟨q1, q2⟩ := h.2 (t % kd) _ (List.getElem?_eq_getElem ha)
    rw [if_pos rfl, Nat.pow_succ, ← Nat.div_div_eq_div_mul]
    refine ⟨by omega, ?_⟩
    have : (hs[t % kd] / 2).toNat = hs[t % kd].toNat / 2 := by omega
    rw [this]
    exact Nat.div_le_div_right q2
  · rw [List.getElem?_set_ne (Ne.symm e)] at hz
    rw [if_neg e, Nat.add_zero]
    exact h.2 j z hz
theorem heapN_end {kd t : Nat} {hs : List Int} (h1 : 1 ≤ kd) (h8 : kd ≤ 8) (h : HeapN kd t hs) (ht : 4 * kd ≤ t) : ∀ z ∈ hs, z = 0 := by
  intro z hz
  obtain ⟨j, hj⟩ := List.getElem?_of_mem hz
  obtain ⟨q1, q2⟩ := h.2 j z hj
  have hjk : j < kd := by have := (List.getElem?_eq_some_iff.mp hj).1; rw [h.1] at this; exact this
  have hq : 4 ≤ (t + kd - 1 - j) / kd := (Nat.le_div_iff_mul_le (by omega)).mpr (by omega)
  have hp : 2 ^ 4 ≤ 2 ^ ((t + kd - 1 - j) / kd) := Nat.pow_le_pow_right (by decide) hq
  have : 8 / 2 ^ ((t + kd - 1 - j) / kd) = 0 := Nat.div_eq_of_lt (by omega)
  omega
theorem heapN_small {kd t : Nat} {hs : List Int} (h : HeapN kd t hs) : ∀ z ∈ hs, 0 ≤ z ∧ z ≤ 8 := by
  intro z hz
  obtain ⟨j, hj⟩ := List.getElem?_of_mem hz
  obtain ⟨q1, q2⟩ := h.2 j z hj
  have : 8 / 2 ^ ((t + kd - 1 - j) / kd) ≤ 8 := Nat.div_le_self _ _
  omega
theorem dot_zero (r h : List Int) (hz : ∀ z ∈ h, z = 0) : dotZ r h = 0 := by
  refine sum_all0 fun x hx => ?_
  obtain ⟨p, hp, rfl⟩ := List.mem_map.mp hx
  rw [hz p.2 (List.of_mem_zip hp).2, Int.mul_zero]
/-- heaps as drawn -/
structure Hp' (W : List (List Int)) (kd : Nat) (most : Int) (h : List Int) : Prop where
  len : h.length = kd
  rng : ∀ z ∈ h, 0 ≤ z ∧ z ≤ 8
  sums : ∀ s ∈ sumsZ W h, s ≤ most
theorem heap_ok {W : List (List Int)} {kd : Nat} {d : List Int} {most : Int} (hW : Sc W kd) (hd : Dk d) (hm : 0 ≤ most) : Ok (S_law_heap d W most) fun p => Hp' W kd most p.1 ∧ Dk p.2 := by
  unfold S_law_heap
  obtain ⟨r0, W0, rfl⟩ : ∃ r l, W = r :: l := by cases W with
    | nil => exact absurd rfl hW.ne
    | cons r l => exact ⟨r, l, rfl⟩
  have hr0 := (hW.mat r0 (by simp)).1
  have k1 := hW.k1
  have k6 := hW.k6
  rw [ixM_zero, M.ok_bind]
  refine ok_bind (draws_ok (n := 9) hd (by omega) (by omega) (by unfold lim; omega) fun v => v) fun p hp => ?_
  refine ok_bind (ok_whileNF (Q := fun s : List Int × Int => Hp' (r0 :: W0) kd most s.1) (fun n (s : List Int × Int) => ∃ u : Nat, u + n = 4 * kd ∧ s.2 = ((u % kd : Nat) : Int) ∧ HeapN kd u s.1) (4 * kd) ?_ ⟨0, by omega, by simp, ?_⟩ ?_) fun s hs => ok_ret ⟨hs, hp.2.2⟩
  · rintro n ⟨hs, at_⟩ ⟨u, hu, rfl, hN⟩
    have ne : sumsZ (r0 :: W0) hs ≠ [] := by simp [sumsZ]
    obtain ⟨m, e1, e2⟩ := ext_max_ok ne
    simp only [sums_ok hW.small, M.ok_bind, e1, lendM_ok]
    refine ok_ret ?_
    split
    · rename_i hc
      have hc := of_decide_eq_true hc
      have hlt : u < 4 * kd := by
        by_cases q : u < 4 * kd
        · exact q
        · have hz := heapN_end k1 (by omega) hN (by omega)
          have : m ≤ most := (e2 most).mpr fun s hs' => by
            obtain ⟨r, _, rfl⟩ := List.mem_map.mp hs'
            rw [dot_zero r hs hz]; exact hm
          omega
      have ha : u % kd < hs.length := by rw [hN.1]; exact Nat.mod_lt _ (by omega)
      refine ⟨n - 1, by omega, ?_⟩
      rw [ixM_nat (List.getElem?_eq_getElem ha), M.ok_bind, setM_nat ha, M.ok_bind, modM_ok (by simp; omega), M.ok_bind]
      refine ok_ret ⟨u + 1, by omega, ?_, heapN_step k1 (by omega) hN ha⟩
      show ((u % kd : Nat) + 1 : Int) % ((hs.set (u % kd) (hs[u % kd] / 2)).length : Nat) = _
      rw [List.length_set, hN.1]
      have : ((u % kd : Nat) + 1 : Int) % (kd : Nat) = (((u % kd + 1) % kd : Nat) : Int) := by simp
      rw [this]
      congr 1
      simp [Nat.add_mod]
    · rename_i hc
      have hc : ¬ most < m := fun q => hc (decide_eq_true q)
      exact ⟨hN.1, heapN_small hN, (e2 most).mp (by omega)⟩
  · refine ⟨by rw [hp.1]; exact hr0, fun j z hz => ?_⟩
    have hj : j < kd := by have := (List.getElem?_eq_some_iff.mp hz).1; rw [hp.1, hr0] at this; exact this
    obtain ⟨v, q1, q2, q3⟩ := hp.2.1 z (List.mem_of_getElem? hz)
    have : (0 + kd - 1 - j) / kd = 0 := Nat.div_eq_of_lt (by omega)
    rw [this]
    subst q3
    exact ⟨q1, by omega⟩
  · exact Nat.lt_of_le_of_lt (show 4 * kd ≤ 24 by omega) (by decide)
end BH

set_option maxRecDepth 100000
set_option maxHeartbeats 1000000
namespace BH
open PySem PySem.Spec PyProof.Rows L2
structure Wt (W : List (List Int)) (kd : Nat) : Prop where
  ne : W ≠ []
  len : W.length ≤ 1000
  k1 : 1 ≤ kd
  k6 : kd ≤ 1000
  mat : ∀ r ∈ W, r.length = kd ∧ ∀ x ∈ r, 0 ≤ x ∧ x < 2 ^ 64
  col : ∀ j, j < kd → ∃ r ∈ W, ∃ x, r[j]? = some x ∧ 0 < x
theorem Sc.wt {W : List (List Int)} {kd : Nat} (h : Sc W kd) : Wt W kd :=
  ⟨h.ne, by have := h.len; omega, h.k1, by have := h.k6; omega, fun r hr => ⟨(h.mat r hr).1, fun x hx => by have := (h.mat r hr).2 x hx; omega⟩, h.col⟩
theorem Wt.small {W : List (List Int)} {kd : Nat} (h : Wt W kd) : Small W := ⟨h.len, fun r hr => ⟨by have := (h.mat r hr).1; have := h.k6; omega, fun x hx => by have := (h.mat r hr).2 x hx; omega⟩⟩
theorem dot_nil (r : List Int) : dotZ r [] = 0 := by simp [dotZ]
theorem dot_nil' (c : List Int) : dotZ [] c = 0 := by simp [dotZ]
theorem dot_cons (a b : Int) (r c : List Int) : dotZ (a :: r) (b :: c) = a * b + dotZ r c := by simp [dotZ]
theorem dot_snoc (t : Int) : ∀ (c r : List Int), c.length < r.length → dotZ r (c ++ [t]) = dotZ r c + r.getD c.length 0 * t
  | [], a :: r, _ => by
    simp only [List.nil_append, dot_cons, dot_nil, List.length_nil]
    cases r <;> simp [dotZ]
  | b :: c, a :: r, h => by
    have := dot_snoc t c r (by simpa using h)
    simp only [List.cons_append, dot_cons, this, List.length_cons, List.getD_cons_succ]
    omega
  | c, [], h => by simp at h
theorem dot_nonneg {r h : List Int} (hr : ∀ x ∈ r, 0 ≤ x) (hh : ∀ x ∈ h, 0 ≤ x) : 0 ≤ dotZ r h := by
  refine sum_nn fun x hx => ?_
  obtain ⟨p, hp, rfl⟩ := List.mem_map.mp hx
  exact Int.mul_nonneg (hr _ (List.of_mem_zip hp).1) (hh _ (List.of_mem_zip hp).2)
/-- one of the products -/
theorem dot_ge : ∀ {r h : List Int} {j : Nat}, (∀ x ∈ r, 0 ≤ x) → (∀ x ∈ h, 0 ≤ x) → r.getD j 0 * h.getD j 0 ≤ dotZ r h
  | [], h, j, _, _ => by simp [dotZ]
  | a :: r, [], j, _, _ => by simp [dotZ]
  | a :: r, b :: h, 0, hr, hh => by
    rw [dot_cons]
    have := dot_nonneg (r := r) (h := h) (fun x hx => hr x (by simp [hx])) (fun x hx => hh x (by simp [hx]))
    simp only [List.getD_cons_zero]; omega
  | a :: r, b :: h, j + 1, hr, hh => by
    rw [dot_cons]
    have := dot_ge (r := r) (h := h) (j := j) (fun x hx => hr x (by simp [hx])) (fun x hx => hh x (by simp [hx]))
    have h2 := Int.mul_nonneg (hr a (by simp)) (hh b (by simp))
    simp only [List.getD_cons_succ]; omega
theorem dot_mono : ∀ {r h g : List Int}, (∀ x ∈ r, 0 ≤ x) → h.length = g.length → (∀ j, j < h.length → h.getD j 0 ≤ g.getD j 0) → dotZ r h ≤ dotZ r g
  | [], h, g, _, _, _ => by simp [dotZ]
  | a :: r, [], [], _, _, _ => by simp [dotZ]
  | a :: r, b :: h, c :: g, hr, hl, hh => by
    rw [dot_cons, dot_cons]
    have := dot_mono (r := r) (h := h) (g := g) (fun x hx => hr x (by simp [hx])) (by simpa using hl) (fun j hj => by
      have := hh (j + 1) (by simp; omega)
      simpa using this)
    have h0 := hh 0 (by simp)
    simp only [List.getD_cons_zero] at h0
    have := Int.mul_le_mul_of_nonneg_left h0 (hr a (by simp))
    omega
  | a :: r, [], c :: g, _, hl, _ => by simp at hl
  | a :: r, b :: h, [], _, hl, _ => by simp at hl
theorem zip_map_self {α β γ : Type} (f : α × β → γ) : ∀ (as : List α) (bs : List β), List.zip ((List.zip as bs).map f) bs = (List.zip as bs).map fun p => (f p, p.2)
  | [], bs => by simp
  | a :: as, [] => by simp
  | a :: as, b :: bs => by simp [zip_map_self f as bs]
theorem zip_map_map {α β γ δ : Type} (f : α × β → γ) (g : β → δ) : ∀ (as : List α) (bs : List β), List.zip ((List.zip as bs).map f) (bs.map g) = (List.zip as bs).map fun p => (f p, g p.2)
  | [], bs => by simp
  | a :: as, [] => by simp
  | a :: as, b :: bs => by simp [zip_map_map f g as bs]
theorem zip_mapL {β δ : Type} (g : β → δ) : ∀ (bs : List β), List.zip (bs.map g) bs = bs.map fun b => (g b, b)
  | [] => by simp
  | b :: bs => by simp [zip_mapL g bs]
/-- what is left of sums behind some counts -/
def leftZ (Z : List (Int × List Int)) (c : List Int) : List Int := Z.map fun p => p.1 - dotZ p.2 c
theorem leftZ_nil (Z : List (Int × List Int)) : leftZ Z [] = Z.map (·.1) := by simp [leftZ, dot_nil]
section
variable {W : List (List Int)} {kd : Nat} {sums : List Int}
theorem getD_mem {r : List Int} {j : Nat} (h : j < r.length) : r.getD j 0 ∈ r ∧ r[j]? = some (r.getD j 0) := by
  obtain ⟨x, h1, h2⟩ := get_of h
  have : r.getD j 0 = x := by simp [List.getD, h1]
  rw [this]; exact ⟨h2, h1⟩
theorem zipZ_mem (hs : sums.length = W.length) {r : List Int} (hr : r ∈ W) : ∃ s, (s, r) ∈ List.zip sums W := by
  obtain ⟨i, hi⟩ := List.mem_iff_getElem?.mp hr
  have hl : i < sums.length := by rw [hs]; exact (List.getElem?_eq_some_iff.mp hi).1
  exact ⟨sums[i], List.mem_iff_getElem?.mpr ⟨i, by rw [List.getElem?_zip_eq_some]; exact ⟨List.getElem?_eq_getElem hl, hi⟩⟩⟩
/-- what would fill up: the further counts of a heap -/
def Fits (Z : List (Int × List Int)) (k : Nat) (c h : List Int) : Prop := (∀ z ∈ h, 0 ≤ z) ∧ ∀ p ∈ Z, p.1 - dotZ p.2 c = dotZ (p.2.drop k) h
theorem fill_turn (hW : Wt W kd) (hs : sums.length = W.length) {c ms : List Int} {k i : Nat} (hk : k + i < kd) (hms : ms.length = i) (hf : ∀ h, Fits (List.zip sums W) k c h → ∀ j, j < i → h.getD j 0 ≤ ms.getD j 0) :
    Ok (compP (fun (a34 : Int × (List Int)) => ixM a34.2 ((k : Int) + (i : Nat)) >>= fun it35 =>
  if (decide ((0 : Int) < it35)) = true then (ixM a34.2 ((k : Int) + (i : Nat)) >>= fun it36 =>
  divM a34.1 it36 >>= fun quo37 =>
  .ok (some quo37)) else (.ok none)) (List.zip (leftZ (List.zip sums W) c) W) >>= fun xs38 =>
  extM min xs38 >>= fun min39 =>
  compP (fun (a40 : Int × (List Int)) => ixM a40.2 ((k : Int) + (i : Nat)) >>= fun it41 =>
  mulM min39 it41 >>= fun mul42 =>
  .ok (some (a40.1 + mul42))) (List.zip (W.map fun r => dotZ (r.drop k) ms) W) >>= fun xs43 =>
  .ok xs43) fun f => ∃ ms', ms'.length = i + 1 ∧ f = (W.map fun r => dotZ (r.drop k) ms') ∧ ∀ h, Fits (List.zip sums W) k c h → ∀ j, j < i + 1 → h.getD j 0 ≤ ms'.getD j 0 := by
  have ki : ((k : Int) + (i : Nat)) = ((k + i : Nat) : Int) := by omega
  rw [ki]
  have gx : ∀ r ∈ W, ixM r ((k + i : Nat) : Int) = .ok (r.getD (k + i) 0) := fun r hr => ixM_nat (getD_mem (by rw [(hW.mat r hr).1]; exact hk)).2
  have e1 : List.zip (leftZ (List.zip sums W) c) W = (List.zip sums W).map fun p => (p.1 - dotZ p.2 c, p.2) := zip_map_self _ _ _
  rw [e1, compP_ok (fun (a : Int × List Int) => if (decide ((0 : Int) < a.2.getD (k + i) 0)) = true then some (a.1 / a.2.getD (k + i) 0) else none) (fun a ha => ?_) ?_]
  rotate_left
  · refine Nat.le_trans (List.length_filterMap_le _ _) ?_
    rw [List.length_map, List.length_zip]
    have := hW.len
    unfold lim; omega
  · obtain ⟨p, hp, rfl⟩ := List.mem_map.mp ha
    have hr : p.2 ∈ W := (List.of_mem_zip hp).2
    simp only [gx p.2 hr, M.ok_bind]
    split
    · rename_i hc
      have hc := of_decide_eq_true hc
      have := ((hW.mat p.2 hr).2 _ (getD_mem (j := k + i) (by rw [(hW.mat p.2 hr).1]; exact hk)).1).2
      rw [divM_ok hc this]; rfl
    · rfl
  rw [M.ok_bind]
  generalize hq : List.filterMap (fun (a : Int × List Int) => if (decide ((0 : Int) < a.2.getD (k + i) 0)) = true then some (a.1 / a.2.getD (k + i) 0) else none) ((List.zip sums W).map fun p => (p.1 - dotZ p.2 c, p.2)) = qs
  have hqs : ∀ q, q ∈ qs ↔ ∃ p ∈ List.zip sums W, 0 < p.2.getD (k + i) 0 ∧ q = (p.1 - dotZ p.2 c) / p.2.getD (k + i) 0 := by
    intro q
    rw [← hq, List.mem_filterMap]
    constructor
    · rintro ⟨a, ha, he⟩
      obtain ⟨p, hp, rfl⟩ := List.mem_map.mp ha
      simp only at he
      split at he
      · rename_i hc
        cases he
        exact ⟨p, hp, of_decide_eq_true hc, rfl⟩
      · cases he
    · rintro ⟨p, hp, h1, rfl⟩
      refine ⟨(p.1 - dotZ p.2 c, p.2), List.mem_map.mpr ⟨p, hp, rfl⟩, ?_⟩
      simp only [decide_eq_true h1, if_true]
  have ne : qs ≠ [] := by
    obtain ⟨r, hr, x, hx, h0⟩ := hW.col (k + i) hk
    obtain ⟨s, hp⟩ := zipZ_mem hs hr
    have : r.getD (k + i) 0 = x := by simp [List.getD, hx]
    intro z
    have := (hqs ((s - dotZ r c) / r.getD (k + i) 0)).mpr ⟨(s, r), hp, by simp only [this]; exact h0, rfl⟩
    rw [z] at this; simp at this
  refine ok_bind (ext_min_ok ne) fun m hm => ?_
  have e2 : List.zip (W.map fun r => dotZ (r.drop k) ms) W = W.map fun r => (dotZ (r.drop k) ms, r) := zip_mapL _ _
  rw [e2, compP_map (fun a : Int × List Int => a.1 + m * a.2.getD (k + i) 0) (fun a ha => ?_) (by rw [List.length_map]; have := hW.len; unfold lim; omega), M.ok_bind]
  rotate_left
  · obtain ⟨r, hr, rfl⟩ := List.mem_map.mp ha
    have := ((hW.mat r hr).2 _ (getD_mem (j := k + i) (by rw [(hW.mat r hr).1]; exact hk)).1)
    rw [gx r hr, M.ok_bind, mulM_r (by omega) this.2]; rfl
  refine ok_ret ⟨ms ++ [m], by simp [hms], ?_, fun h hh j hj => ?_⟩
  · rw [List.map_map]
    refine List.map_congr_left fun r hr => ?_
    simp only [Function.comp]
    have hl := (hW.mat r hr).1
    rw [dot_snoc m ms (r.drop k) (by rw [List.length_drop, hms]; omega), hms]
    have : (r.drop k).getD i 0 = r.getD (k + i) 0 := by simp [List.getD]
    rw [this, Int.mul_comm]
  · by_cases ji : j < i
    · have := hf h hh j ji
      have e : (ms ++ [m]).getD j 0 = ms.getD j 0 := by simp [List.getD, List.getElem?_append, hms, ji]
      rw [e]; exact this
    · have : j = i := by omega
      subst this
      have e : (ms ++ [m]).getD j 0 = m := by simp [List.getD, ← hms]
      rw [e]
      refine (hm.1 _).mpr fun q hq' => ?_
      obtain ⟨p, hp, h0, rfl⟩ := (hqs q).mp hq'
      rw [hh.2 p hp]
      have hr : p.2 ∈ W := (List.of_mem_zip hp).2
      have hnn : ∀ x ∈ p.2.drop k, 0 ≤ x := fun x hx => ((hW.mat p.2 hr).2 x (List.mem_of_mem_drop hx)).1
      have g := dot_ge (j := j) hnn hh.1
      have : (p.2.drop k).getD j 0 = p.2.getD (k + j) 0 := by simp [List.getD]
      rw [this] at g
      rw [Int.le_ediv_iff_mul_le h0, Int.mul_comm]
      exact g
end
end BH

set_option maxRecDepth 100000
set_option maxHeartbeats 1000000
namespace BH
open PySem PySem.Spec PyProof.Rows L2
theorem lex_app : ∀ {a b x y : List Int}, a.length = b.length → a < b → a ++ x < b ++ y
  | [], [], _, _, _, h => absurd h (List.lt_irrefl _)
  | [], _ :: _, _, _, hl, _ => by simp at hl
  | _ :: _, [], _, _, hl, _ => by simp at hl
  | u :: a, v :: b, x, y, hl, h => by
    rw [List.cons_lt_cons_iff] at h
    rw [List.cons_append, List.cons_append, List.cons_lt_cons_iff]
    rcases h with h | ⟨rfl, h⟩
    · exact .inl h
    · exact .inr ⟨rfl, lex_app (by simpa using hl) h⟩
theorem lex_last : ∀ {c : List Int} {u t : Int}, u < t → c ++ [u] < c ++ [t]
  | [], u, t, h => by rw [List.nil_append, List.nil_append, List.cons_lt_cons_iff]; exact .inl h
  | a :: c, u, t, h => by rw [List.cons_append, List.cons_append, List.cons_lt_cons_iff]; exact .inr ⟨rfl, lex_last h⟩
/-- heaps with some sums -/
structure IsSol (W : List (List Int)) (kd : Nat) (sums h : List Int) : Prop where
  len : h.length = kd
  nn : ∀ z ∈ h, 0 ≤ z
  eq : sumsZ W h = sums
section
variable {W : List (List Int)} {kd : Nat} {sums : List Int}
theorem dot_split : ∀ (r a b : List Int), a.length ≤ r.length → dotZ r (a ++ b) = dotZ r a + dotZ (r.drop a.length) b
  | r, [], b, _ => by simp [dot_nil]
  | [], x :: a, b, h => by simp at h
  | y :: r, x :: a, b, h => by
    have := dot_split r a b (by simpa using h)
    simp only [List.cons_append, dot_cons, this, List.length_cons, List.drop_succ_cons]; omega
theorem sol_row {h : List Int} (s : IsSol W kd sums h) {p : Int × List Int} (hp : p ∈ List.zip sums W) : p.1 = dotZ p.2 h := by
  obtain ⟨i, hi⟩ := List.mem_iff_getElem?.mp hp
  rw [← s.eq] at hi
  rw [List.getElem?_zip_eq_some] at hi
  obtain ⟨h1, h2⟩ := hi
  simp only [sumsZ, List.getElem?_map, h2, Option.map, Option.some.injEq] at h1
  exact h1.symm
/-- behind the beginning of a solution the rest fits -/
theorem sol_fits (hW : Wt W kd) {h : List Int} (s : IsSol W kd sums h) {k : Nat} (hk : k ≤ kd) : Fits (List.zip sums W) k (h.take k) (h.drop k) := by
  refine ⟨fun z hz => s.nn z (List.mem_of_mem_drop hz), fun p hp => ?_⟩
  have hr : p.2 ∈ W := (List.of_mem_zip hp).2
  have hl : (h.take k).length = k := by simp [s.len]; omega
  have := dot_split p.2 (h.take k) (h.drop k) (by rw [hl, (hW.mat p.2 hr).1]; exact hk)
  rw [List.take_append_drop, hl] at this
  rw [sol_row s hp, this]; omega
/-- all sums met -/
theorem sol_of (hW : Wt W kd) (hs : sums.length = W.length) {h : List Int} (hl : h.length = kd) (hn : ∀ z ∈ h, 0 ≤ z) (h0 : ∀ x ∈ leftZ (List.zip sums W) h, x = 0) : IsSol W kd sums h := by
  refine ⟨hl, hn, ?_⟩
  apply List.ext_getElem?
  intro i
  simp only [sumsZ, List.getElem?_map]
  cases hi : W[i]? with
  | none =>
    have : W.length ≤ i := List.getElem?_eq_none_iff.mp hi
    simp only [Option.map]
    exact (List.getElem?_eq_none_iff.mpr (by omega)).symm
  | some r =>
    have hlt : i < sums.length := by rw [hs]; exact (List.getElem?_eq_some_iff.mp hi).1
    have hp : (sums[i], r) ∈ List.zip sums W := List.mem_iff_getElem?.mpr ⟨i, by rw [List.getElem?_zip_eq_some]; exact ⟨List.getElem?_eq_getElem hlt, hi⟩⟩
    have := h0 (sums[i] - dotZ r h) (List.mem_map.mpr ⟨_, hp, rfl⟩)
    simp only [Option.map, List.getElem?_eq_getElem hlt]
    congr 1; omega
def FITS (W : List (List Int)) (sums : List Int) (kd k : Nat) (c : List Int) : Prop := ∃ h : List Int, h.length = kd - k ∧ Fits (List.zip sums W) k c h
/-- one count tried -/
theorem lot_turn (hW : Wt W kd) (hs : sums.length = W.length) {c : List Int} {k t : Nat} (hc : c.length = k) (hk : k < kd) (longer : List (List Int × List Int)) (hl : longer.length < lim) :
    Ok (lenG (List.map (fun (a26 : List Int) => (0 : Int)) W) >>= fun xs27 =>
  ixM W (0 : Int) >>= fun it28 =>
  range2M ((k : Int) + (1 : Int)) ((it28).length : Int) >>= fun rng29 =>
  forM' (fun (a33 : Int) (s30 : (List Int)) =>
  compP (fun (a34 : Int × (List Int)) => ixM a34.2 a33 >>= fun it35 =>
  if (decide ((0 : Int) < it35)) = true then (ixM a34.2 a33 >>= fun it36 =>
  divM a34.1 it36 >>= fun quo37 =>
  .ok (some quo37)) else (.ok none)) (List.zip (leftZ (List.zip sums W) (c ++ [(t : Int)])) W) >>= fun xs38 =>
  extM min xs38 >>= fun min39 =>
  compP (fun (a40 : Int × (List Int)) => ixM a40.2 a33 >>= fun it41 =>
  mulM min39 it41 >>= fun mul42 =>
  .ok (some (a40.1 + mul42))) (List.zip s30 W) >>= fun xs43 =>
  .ok xs43) rng29 xs27 >>= fun s30 =>
  lenG (List.map (fun (a44 : Int × Int) => (1 : Int)) (List.filter (fun (a44 : Int × Int) => (decide (a44.2 < a44.1))) (List.zip (leftZ (List.zip sums W) (c ++ [(t : Int)])) s30))) >>= fun xs45 =>
  (if (eqD xs45 ([] : List Int)) = true then (lenG (c ++ [(t : Int)]) >>= fun cat47 =>
  appM longer (cat47, (leftZ (List.zip sums W) (c ++ [(t : Int)]))) >>= fun ys48 =>
  .ok ys48) else (.ok longer)) >>= fun s46 =>
  compP (fun (a49 : Int × (List Int)) => ixM a49.2 (k : Int) >>= fun it50 =>
  .ok (some (a49.1 - it50))) (List.zip (leftZ (List.zip sums W) (c ++ [(t : Int)])) W) >>= fun xs51 =>
  .ok (s46, xs51, ((t : Int) + (1 : Int)))) fun s => s.2 = (leftZ (List.zip sums W) (c ++ [((t + 1 : Nat) : Int)]), ((t + 1 : Nat) : Int)) ∧
    ((s.1 = longer ∧ ¬ FITS W sums kd (k + 1) (c ++ [(t : Int)])) ∨ (s.1 = longer ++ [(c ++ [(t : Int)], leftZ (List.zip sums W) (c ++ [(t : Int)]))] ∧ (k + 1 = kd → ∀ x ∈ leftZ (List.zip sums W) (c ++ [(t : Int)]), x ≤ 0))) := by
  have hWl := hW.len
  have hk6 := hW.k6
  obtain ⟨r0, W0, e0⟩ : ∃ r l, W = r :: l := by cases q : W with
    | nil => exact absurd q hW.ne
    | cons r l => exact ⟨r, l, rfl⟩
  have hr0 : r0.length = kd := (hW.mat r0 (by rw [e0]; simp)).1
  have hix : ixM W 0 = .ok r0 := by rw [e0]; exact ixM_zero
  rw [lenG_ok (by rw [List.length_map]; unfold lim; omega), M.ok_bind, hix, M.ok_bind, range2M_ok (by omega) (by omega) (by omega) (by omega), M.ok_bind]
  have en : ((r0.length : Int) - ((k : Int) + 1)).toNat = kd - (k + 1) := by omega
  have ec : ((k : Int) + 1) = ((k + 1 : Nat) : Int) := by omega
  rw [en, ec]
  refine ok_bind (ok_for (fun i f => ∃ ms : List Int, ms.length = i ∧ f = (W.map fun r => dotZ (r.drop (k + 1)) ms) ∧ ∀ h, Fits (List.zip sums W) (k + 1) (c ++ [(t : Int)]) h → ∀ j, j < i → h.getD j 0 ≤ ms.getD j 0) _ 0 (fun i a s hi hs' => ?_) _ ⟨[], rfl, ?_, fun _ _ j hj => absurd hj (Nat.not_lt_zero _)⟩) fun f hf => ?_
  · have hlt : i < kd - (k + 1) := by have := (List.getElem?_eq_some_iff.mp hi).1; simpa using this
    rw [rangeZ_get hlt] at hi
    cases hi
    simp only [Nat.zero_add] at hs' ⊢
    obtain ⟨ms, h1, rfl, h3⟩ := hs'
    exact fill_turn hW hs (by omega) h1 h3
  · refine List.map_congr_left fun r _ => ?_
    rw [dot_nil]
  · obtain ⟨ms, h1, rfl, h3⟩ := hf
    simp only [rangeZ_length, Nat.zero_add] at h1 h3
    have ez : List.zip (leftZ (List.zip sums W) (c ++ [(t : Int)])) (W.map fun r => dotZ (r.drop (k + 1)) ms) = (List.zip sums W).map fun p => (p.1 - dotZ p.2 (c ++ [(t : Int)]), dotZ (p.2.drop (k + 1)) ms) := zip_map_map _ _ _ _
    rw [ez, lenG_ok (by rw [List.length_map]; refine Nat.le_trans (List.length_filter_le _ _) ?_; rw [List.length_map, List.length_zip]; unfold lim; omega), M.ok_bind]
    have test : eqD (List.map (fun (a44 : Int × Int) => (1 : Int)) (List.filter (fun (a44 : Int × Int) => (decide (a44.2 < a44.1))) ((List.zip sums W).map fun p => (p.1 - dotZ p.2 (c ++ [(t : Int)]), dotZ (p.2.drop (k + 1)) ms)))) ([] : List Int) = true ↔ ∀ p ∈ List.zip sums W, p.1 - dotZ p.2 (c ++ [(t : Int)]) ≤ dotZ (p.2.drop (k + 1)) ms := by
      rw [eqD_true, List.map_eq_nil_iff, List.filter_eq_nil_iff]
      constructor
      · intro q p hp
        have := q _ (List.mem_map.mpr ⟨p, hp, rfl⟩)
        simp only [decide_eq_true_eq] at this
        omega
      · intro q a ha
        obtain ⟨p, hp, rfl⟩ := List.mem_map.mp ha
        have := q p hp
        simp only [decide_eq_true_eq]
        omega
    refine ok_bind (P := fun s => (s = longer ∧ ¬ FITS W sums kd (k + 1) (c ++ [(t : Int)])) ∨ (s = longer ++ [(c ++ [(t : Int)], leftZ (List.zip sums W) (c ++ [(t : Int)]))] ∧ (k + 1 = kd → ∀ x ∈ leftZ (List.zip sums W) (c ++ [(t : Int)]), x ≤ 0))) (ok_ite (fun ht => ?_) fun ht => ?_) fun s46 h46 => ?_
    · rw [lenG_ok (by simp [lim]; omega), M.ok_bind, appM_ok hl, M.ok_bind]
      refine ok_ret (.inr ⟨rfl, fun hkd x hx => ?_⟩)
      obtain ⟨p, hp, rfl⟩ := List.mem_map.mp hx
      have q := test.mp ht p hp
      have : ms = [] := List.eq_nil_of_length_eq_zero (by omega)
      rw [this, dot_nil] at q
      exact q
    · refine ok_ret (.inl ⟨rfl, ?_⟩)
      rintro ⟨h, hh, hf⟩
      have : (eqD _ _ = true) := test.mpr fun p hp => by
        rw [hf.2 p hp]
        have hr : p.2 ∈ W := (List.of_mem_zip hp).2
        exact dot_mono (fun x hx => ((hW.mat p.2 hr).2 x (List.mem_of_mem_drop hx)).1) (by omega) fun j hj => h3 h hf j (by omega)
      rw [this] at ht; cases ht
    · have e1 : List.zip (leftZ (List.zip sums W) (c ++ [(t : Int)])) W = (List.zip sums W).map fun p => (p.1 - dotZ p.2 (c ++ [(t : Int)]), p.2) := zip_map_self _ _ _
      rw [e1, compP_map (fun a : Int × List Int => a.1 - a.2.getD k 0) (fun a ha => ?_) (by rw [List.length_map, List.length_zip]; unfold lim; omega), M.ok_bind]
      · refine ok_ret ⟨?_, h46⟩
        simp only [Prod.mk.injEq]
        refine ⟨?_, by omega⟩
        rw [List.map_map]
        refine List.map_congr_left fun p hp => ?_
        have hr : p.2 ∈ W := (List.of_mem_zip hp).2
        have hl := (hW.mat p.2 hr).1
        simp only [Function.comp]
        rw [dot_snoc _ c p.2 (by omega), dot_snoc _ c p.2 (by omega), hc]
        have : (((t + 1 : Nat) : Int)) = (t : Int) + 1 := by omega
        rw [this, Int.mul_add, Int.mul_one]; omega
      · obtain ⟨p, hp, rfl⟩ := List.mem_map.mp ha
        have hr : p.2 ∈ W := (List.of_mem_zip hp).2
        rw [ixM_nat (getD_mem (by rw [(hW.mat p.2 hr).1]; exact hk)).2]; rfl
end
end BH

set_option maxRecDepth 100000
set_option maxHeartbeats 1000000
namespace BH
open PySem PySem.Spec PyProof.Rows L2
section
variable {W : List (List Int)} {kd B : Nat} {sums : List Int}
theorem take_snoc {c : List Int} {t : Int} : (c ++ [t]).take c.length = c := by simp
theorem sol_take {h : List Int} (s : IsSol W kd sums h) {k : Nat} (hk : k < kd) : h.take (k + 1) = h.take k ++ [h.getD k 0] := by
  have hl : k < h.length := by rw [s.len]; exact hk
  rw [List.take_succ, (getD_mem hl).2]; rfl
/-- what stands in longer while item c is worked at: done are the beginnings in D and c with counts below t -/
structure Lg (W : List (List Int)) (kd : Nat) (sums : List Int) (k : Nat) (D : List (List Int)) (c : List Int) (t : Nat) (L : List (List Int × List Int)) : Prop where
  asc : (L.map (·.1)).Pairwise (· < ·)
  src : ∀ q ∈ L, q.1.length = k + 1 ∧ (q.1.take k ∈ D ∨ ∃ u : Nat, u < t ∧ q.1 = c ++ [(u : Int)])
  itm : ∀ q ∈ L, (∀ z ∈ q.1, 0 ≤ z) ∧ q.2 = leftZ (List.zip sums W) q.1 ∧ (∀ x ∈ q.2, 0 ≤ x) ∧ (k + 1 = kd → ∀ x ∈ q.2, x ≤ 0)
  all : ∀ h, IsSol W kd sums h → (h.take k ∈ D ∨ (h.take k = c ∧ h.getD k 0 < t)) → h.take (k + 1) ∈ L.map (·.1)
theorem left_at (hs : sums.length = W.length) {c : List Int} {x : Int} (h : x ∈ leftZ (List.zip sums W) c) : ∃ p ∈ List.zip sums W, x = p.1 - dotZ p.2 c := by
  obtain ⟨p, hp, rfl⟩ := List.mem_map.mp h
  exact ⟨p, hp, rfl⟩
/-- the counts of one item -/
theorem lot_while (hW : Wt W kd) (hs : sums.length = W.length) (hB : ∀ s ∈ sums, s ≤ B) (hB2 : B + 1 < 10 ^ 50) {c : List Int} {k : Nat} (hc : c.length = k) (hcn : ∀ z ∈ c, 0 ≤ z) (hk : k < kd) {D : List (List Int)} (hD : ∀ b ∈ D, b.length = k ∧ b < c) {L0 : List (List Int × List Int)} (h0 : Lg W kd sums k D c 0 L0) {N : Nat} (hN : L0.length ≤ N) (hN2 : N + (B + 1) ≤ lim) {body : List (List Int × List Int) × List Int × Int → M (List (List Int × List Int) × List Int × Int)}
    (hb : ∀ (t : Nat) (L : List (List Int × List Int)), L.length < lim → Ok (body (L, leftZ (List.zip sums W) (c ++ [(t : Int)]), (t : Int))) fun s => s.2 = (leftZ (List.zip sums W) (c ++ [((t + 1 : Nat) : Int)]), ((t + 1 : Nat) : Int)) ∧
    ((s.1 = L ∧ ¬ FITS W sums kd (k + 1) (c ++ [(t : Int)])) ∨ (s.1 = L ++ [(c ++ [(t : Int)], leftZ (List.zip sums W) (c ++ [(t : Int)]))] ∧ (k + 1 = kd → ∀ x ∈ leftZ (List.zip sums W) (c ++ [(t : Int)]), x ≤ 0)))) (l0 : List Int) (hl0 : l0 = leftZ (List.zip sums W) (c ++ [((0 : Nat) : Int)])) :
    Ok (whileM (fun (s21 : (List ((List Int) × (List Int))) × (List Int) × Int) => extM min s21.2.1 >>= fun min25 =>
  .ok (decide ((0 : Int) ≤ min25))) body FUEL (L0, l0, (0 : Int))) fun s => Lg W kd sums k (D ++ [c]) [] 0 s.1 ∧ s.1.length ≤ N + (B + 1) := by
  subst hl0
  refine ok_whileNF (fun n s => ∃ t : Nat, t + n = B + 1 ∧ s.2 = (leftZ (List.zip sums W) (c ++ [(t : Int)]), (t : Int)) ∧ Lg W kd sums k D c t s.1 ∧ s.1.length ≤ N + t) (B + 1) ?_ ⟨0, by omega, rfl, h0, by simpa using hN⟩ (by omega)
  rintro n ⟨L, s2⟩ ⟨t, htn, hs2, hL, hlen⟩
  simp only at hs2 hL hlen
  subst hs2
  have zne : leftZ (List.zip sums W) (c ++ [(t : Int)]) ≠ [] := by
    obtain ⟨r, l, e⟩ : ∃ r l, W = r :: l := by cases q : W with
      | nil => exact absurd q hW.ne
      | cons r l => exact ⟨r, l, rfl⟩
    obtain ⟨s, hp⟩ := zipZ_mem hs (r := r) (by rw [e]; simp)
    intro z
    have := List.map_eq_nil_iff.mp z
    rw [this] at hp; simp at hp
  obtain ⟨m, e1, e2, e3⟩ := ext_min_ok zne
  simp only [e1, M.ok_bind]
  refine ok_ret ?_
  split
  · rename_i hcnd
    have hnn := (e2 0).mp (of_decide_eq_true hcnd)
    -- a row with a weight at this kind
    have htB : t ≤ B := by
      obtain ⟨r, hr, w, hw, hw0⟩ := hW.col k hk
      obtain ⟨s, hp⟩ := zipZ_mem hs hr
      have h1 := hnn _ (List.mem_map.mpr ⟨_, hp, rfl⟩)
      simp only at h1
      have hs' := hB s (List.of_mem_zip hp).1
      rw [dot_snoc _ c r (by rw [(hW.mat r hr).1]; omega), hc] at h1
      have : r.getD k 0 = w := by simp [List.getD, hw]
      rw [this] at h1
      have h2 := dot_nonneg (r := r) (h := c) (fun x hx => ((hW.mat r hr).2 x hx).1) hcn
      have h3 : (t : Int) ≤ w * t := by
        have := Int.mul_le_mul_of_nonneg_right (show (1 : Int) ≤ w by omega) (show (0 : Int) ≤ t by omega)
        omega
      omega
    refine ⟨n - 1, by omega, ?_⟩
    refine ok_imp (hb t L (by omega)) fun s hs3 => ?_
    obtain ⟨L', s2'⟩ := s
    obtain ⟨q1, q2⟩ := hs3
    simp only at q1 q2
    have key : ∀ h, IsSol W kd sums h → h.take k = c → h.getD k 0 = (t : Int) → FITS W sums kd (k + 1) (c ++ [(t : Int)]) := fun h s hc' hk' => by
      refine ⟨h.drop (k + 1), by simp [s.len], ?_⟩
      have := sol_fits hW s (k := k + 1) (by omega)
      rw [sol_take s hk, hc', hk'] at this
      exact this
    refine ⟨t + 1, by omega, q1, ?_, ?_⟩
    · rcases q2 with ⟨rfl, q2⟩ | ⟨rfl, q2⟩
      · refine ⟨hL.asc, fun q hq => ⟨(hL.src q hq).1, ?_⟩, hL.itm, fun h s hh => ?_⟩
        · rcases (hL.src q hq).2 with z | ⟨u, z1, z2⟩
          · exact .inl z
          · exact .inr ⟨u, by omega, z2⟩
        · rcases hh with z | ⟨z1, z2⟩
          · exact hL.all h s (.inl z)
          · by_cases q : h.getD k 0 = (t : Int)
            · exact absurd (key h s z1 q) q2
            · exact hL.all h s (.inr ⟨z1, by omega⟩)
      · have app : (L ++ [(c ++ [(t : Int)], leftZ (List.zip sums W) (c ++ [(t : Int)]))]).map (·.1) = L.map (·.1) ++ [c ++ [(t : Int)]] := by simp
        refine ⟨?_, fun q hq => ?_, fun q hq => ?_, fun h s hh => ?_⟩
        · rw [app, List.pairwise_append]
          refine ⟨hL.asc, by simp, fun a ha b hb' => ?_⟩
          rw [List.mem_singleton] at hb'; subst hb'
          obtain ⟨q, hq, rfl⟩ := List.mem_map.mp ha
          obtain ⟨z1, z2⟩ := hL.src q hq
          rcases z2 with z | ⟨u, z2, z3⟩
          · have hh := hD _ z
            have e : q.1 = q.1.take k ++ q.1.drop k := (List.take_append_drop k q.1).symm
            rw [e]
            exact lex_app (by rw [hh.1, hc]) hh.2
          · rw [z3]; exact lex_last (by omega)
        · rcases List.mem_append.mp hq with z | z
          · refine ⟨(hL.src q z).1, ?_⟩
            rcases (hL.src q z).2 with z | ⟨u, z1, z2⟩
            · exact .inl z
            · exact .inr ⟨u, by omega, z2⟩
          · rw [List.mem_singleton] at z; subst z
            exact ⟨by simp [hc], .inr ⟨t, by omega, rfl⟩⟩
        · rcases List.mem_append.mp hq with z | z
          · exact hL.itm q z
          · rw [List.mem_singleton] at z; subst z
            refine ⟨fun z hz => ?_, rfl, hnn, q2⟩
            rcases List.mem_append.mp hz with z' | z'
            · exact hcn z z'
            · rw [List.mem_singleton] at z'; omega
        · rw [app]
          rcases hh with z | ⟨z1, z2⟩
          · exact List.mem_append_left _ (hL.all h s (.inl z))
          · by_cases q : h.getD k 0 = (t : Int)
            · refine List.mem_append_right _ ?_
              rw [sol_take s hk, z1, q]; simp
            · exact List.mem_append_left _ (hL.all h s (.inr ⟨z1, by omega⟩))
    · rcases q2 with ⟨rfl, _⟩ | ⟨rfl, _⟩
      · simp only; omega
      · simp only [List.length_append, List.length_cons, List.length_nil]; omega
  · rename_i hcnd
    have hneg : m < 0 := by
      have : ¬ (0 : Int) ≤ m := fun q => hcnd (decide_eq_true q)
      omega
    obtain ⟨p, hp, hm⟩ := left_at hs e3
    refine ⟨⟨hL.asc, fun q hq => ⟨(hL.src q hq).1, .inl ?_⟩, hL.itm, fun h s hh => ?_⟩, by omega⟩
    · rcases (hL.src q hq).2 with z | ⟨u, z1, z2⟩
      · exact List.mem_append_left _ z
      · rw [z2, ← hc, take_snoc]; simp
    · rcases hh with z | ⟨z1, z2⟩
      · rcases List.mem_append.mp z with z | z
        · exact hL.all h s (.inl z)
        · rw [List.mem_singleton] at z
          refine hL.all h s (.inr ⟨z, ?_⟩)
          -- else what is left would not be below 0
          refine Classical.byContradiction fun no => ?_
          have ge : (t : Int) ≤ h.getD k 0 := by omega
          have hr : p.2 ∈ W := (List.of_mem_zip hp).2
          have nn : ∀ x ∈ p.2, 0 ≤ x := fun x hx => ((hW.mat p.2 hr).2 x hx).1
          have f := (sol_fits hW s (k := k + 1) (by omega)).2 p hp
          have f2 := dot_nonneg (r := p.2.drop (k + 1)) (h := h.drop (k + 1)) (fun x hx => nn x (List.mem_of_mem_drop hx)) fun z hz => s.nn z (List.mem_of_mem_drop hz)
          rw [sol_take s hk, z, dot_snoc _ c p.2 (by rw [(hW.mat p.2 hr).1]; omega), hc] at f
          rw [dot_snoc _ c p.2 (by rw [(hW.mat p.2 hr).1]; omega), hc] at hm
          have := Int.mul_le_mul_of_nonneg_left ge (nn _ (getD_mem (r := p.2) (j := k) (by rw [(hW.mat p.2 hr).1]; exact hk)).1)
          omega
      · have := s.nn _ (getD_mem (r := h) (j := k) (by rw [s.len]; exact hk)).1
        omega
end
end BH

set_option maxRecDepth 100000
set_option maxHeartbeats 1000000
namespace BH
open PySem PySem.Spec PyProof.Rows L2
section
variable {W : List (List Int)} {kd B : Nat} {sums : List Int}
/-- found behind k kinds -/
structure Fd (W : List (List Int)) (kd : Nat) (sums : List Int) (k : Nat) (L : List (List Int × List Int)) : Prop where
  asc : (L.map (·.1)).Pairwise (· < ·)
  itm : ∀ q ∈ L, q.1.length = k ∧ (∀ z ∈ q.1, 0 ≤ z) ∧ q.2 = leftZ (List.zip sums W) q.1 ∧ (0 < k → k = kd → ∀ x ∈ q.2, x = 0)
  all : ∀ h, IsSol W kd sums h → h.take k ∈ L.map (·.1)
theorem Lg.next {k : Nat} {D : List (List Int)} {c : List Int} {L : List (List Int × List Int)} (h : Lg W kd sums k D [] 0 L) : Lg W kd sums k D c 0 L := by
  refine ⟨h.asc, fun q hq => ⟨(h.src q hq).1, ?_⟩, h.itm, fun g s hg => ?_⟩
  · rcases (h.src q hq).2 with z | ⟨u, hu, _⟩
    · exact .inl z
    · exact absurd hu (Nat.not_lt_zero _)
  · rcases hg with z | ⟨z1, z2⟩
    · exact h.all g s (.inl z)
    · exact h.all g s (.inr ⟨by
        refine Classical.byContradiction fun _ => ?_
        have hk : k < g.length ∨ g.length ≤ k := by omega
        rcases hk with hk | hk
        · have := s.nn _ (getD_mem (r := g) (j := k) hk).1; omega
        · have : g.getD k 0 = 0 := by simp [List.getD, List.getElem?_eq_none_iff.mpr hk]
          omega, z2⟩)
theorem lot_kind (hW : Wt W kd) (hs : sums.length = W.length) (hB : ∀ s ∈ sums, s ≤ B) (hB2 : B + 1 < 10 ^ 50) {k : Nat} (hk : k < kd) {F : List (List Int × List Int)} (hF : Fd W kd sums k F) (hlim : F.length * (B + 1) ≤ lim) {f : List Int × List Int → List (List Int × List Int) → M (List (List Int × List Int))}
    (hf : ∀ q D L N, q ∈ F → (∀ b ∈ D, b.length = k ∧ b < q.1) → Lg W kd sums k D q.1 0 L → L.length ≤ N → N + (B + 1) ≤ lim → Ok (f q L) fun L' => Lg W kd sums k (D ++ [q.1]) [] 0 L' ∧ L'.length ≤ N + (B + 1)) :
    Ok (forM' f F []) fun L => Fd W kd sums (k + 1) L ∧ L.length ≤ F.length * (B + 1) := by
  have key := ok_for (f := f) (fun i (L : List (List Int × List Int)) => Lg W kd sums k ((F.take i).map (·.1)) [] 0 L ∧ L.length ≤ i * (B + 1)) F 0 (fun i q L hi hL => ?_) [] ⟨⟨by simp, by simp, by simp, fun h s hh => ?_⟩, by simp⟩
  · refine ok_imp key fun L hL => ?_
    simp only [Nat.zero_add, List.take_length] at hL
    obtain ⟨h1, h2⟩ := hL
    refine ⟨⟨h1.asc, fun q hq => ?_, fun h s => h1.all h s (.inl (hF.all h s))⟩, h2⟩
    obtain ⟨a, b, c, d⟩ := h1.itm q hq
    refine ⟨(h1.src q hq).1, a, b, fun _ hkd x hx => ?_⟩
    have := c x hx
    have := d hkd x hx
    omega
  · simp only [Nat.zero_add] at hL ⊢
    have hiF := (List.getElem?_eq_some_iff.mp hi).1
    have hq : q ∈ F := List.mem_of_getElem? hi
    have hmul : i * (B + 1) + (B + 1) ≤ F.length * (B + 1) := by
      rw [← Nat.succ_mul]; exact Nat.mul_le_mul_right _ hiF
    refine ok_imp (hf q ((F.take i).map (·.1)) L (i * (B + 1)) hq (fun b hb => ?_) hL.1.next hL.2 (by omega)) fun L' hL' => ⟨?_, by rw [Nat.succ_mul]; exact hL'.2⟩
    · obtain ⟨p, hp, rfl⟩ := List.mem_map.mp hb
      refine ⟨(hF.itm p (List.mem_of_mem_take hp)).1, ?_⟩
      obtain ⟨j, hj⟩ := List.mem_iff_getElem?.mp hp
      rw [List.getElem?_take] at hj
      split at hj
      · rename_i hji
        have hjl := (List.getElem?_eq_some_iff.mp hj)
        have hil := (List.getElem?_eq_some_iff.mp hi)
        have := List.pairwise_iff_getElem.mp hF.asc j i (by simpa using hjl.1) (by simpa using hiF) hji
        simpa [hjl.2, hil.2] using this
      · cases hj
    · have e : (F.take (i + 1)).map (·.1) = (F.take i).map (·.1) ++ [q.1] := by
        rw [List.take_succ, hi]; simp
      rw [e]; exact hL'.1
  · rcases hh with z | ⟨z1, z2⟩
    · simp at z
    · have := s.nn _ (getD_mem (r := h) (j := k) (by rw [s.len]; exact hk)).1
      omega
theorem lot_ok (hW : Wt W kd) (hs : sums.length = W.length) (hB : ∀ s ∈ sums, s ≤ B) (hB2 : B + 1 < 10 ^ 50) (hlim : (B + 1) ^ kd ≤ lim) : Ok (S_law_lot W sums) fun L => L.Pairwise (· < ·) ∧ (∀ h, h ∈ L ↔ IsSol W kd sums h) ∧ L.length ≤ (B + 1) ^ kd := by
  unfold S_law_lot
  have hk6 := hW.k6
  obtain ⟨r0, W0, e0⟩ : ∃ r l, W = r :: l := by cases q : W with
    | nil => exact absurd q hW.ne
    | cons r l => exact ⟨r, l, rfl⟩
  have hr0 : r0.length = kd := (hW.mat r0 (by rw [e0]; simp)).1
  have hix : ixM W 0 = .ok r0 := by rw [e0]; exact ixM_zero
  refine ok_bind (ok_eq hix) ?_
  rintro _ rfl
  rw [range1M_ok (by omega), M.ok_bind]
  refine ok_bind (ok_for (fun i (F : List (List Int × List Int)) => Fd W kd sums i F ∧ F.length ≤ (B + 1) ^ i) _ 0 (fun i a F hi hF => ?_) _ ⟨⟨by simp, ?_, ?_⟩, by simp⟩) fun F hF => ?_
  · have hlt : i < kd := by have := (List.getElem?_eq_some_iff.mp hi).1; rw [← hr0]; simpa using this
    rw [rangeZ_get (by rw [hr0]; exact hlt)] at hi
    cases hi
    simp only [Nat.zero_add, Int.zero_add] at hF ⊢
    have hpow : (B + 1) ^ (i + 1) ≤ (B + 1) ^ kd := Nat.pow_le_pow_right (by omega) hlt
    have hmul : F.length * (B + 1) ≤ (B + 1) ^ (i + 1) := by rw [Nat.pow_succ]; exact Nat.mul_le_mul_right _ hF.2
    refine ok_bind (lot_kind hW hs hB hB2 hlt hF.1 (by omega) fun q D L N hq hD hL hN hN2 => ?_) fun L hL => ok_ret ⟨hL.1, Nat.le_trans hL.2 hmul⟩
    obtain ⟨q1, q2, q3, q4⟩ := hF.1.itm q hq
    refine ok_bind (lot_while hW hs hB hB2 q1 q2 hlt hD hL hN hN2 (fun t L hL => ?_) q.2 ?_) fun s h => ok_ret h
    · have := lot_turn hW hs q1 hlt (t := t) L hL
      exact this
    · rw [q3]
      refine List.map_congr_left fun p hp => ?_
      have hr : p.2 ∈ W := (List.of_mem_zip hp).2
      rw [dot_snoc _ q.1 p.2 (by rw [(hW.mat p.2 hr).1, q1]; exact hlt)]
      simp
  · intro q hq
    rw [List.mem_singleton] at hq; subst hq
    refine ⟨rfl, by simp, ?_, fun h => absurd h (Nat.lt_irrefl _)⟩
    rw [leftZ_nil]
    have : (List.zip sums W).map (·.1) = sums := List.map_fst_zip (by omega)
    exact this.symm
  · intro h s; simp
  · simp only [Nat.zero_add, rangeZ_length, hr0] at hF
    obtain ⟨hF, hFl⟩ := hF
    rw [lenG_ok (by rw [List.length_map]; omega), M.ok_bind]
    refine ok_ret ⟨hF.asc, fun h => ⟨fun hh => ?_, fun s => ?_⟩, by rw [List.length_map]; exact hFl⟩
    · obtain ⟨q, hq, rfl⟩ := List.mem_map.mp hh
      obtain ⟨q1, q2, q3, q4⟩ := hF.itm q hq
      exact sol_of hW hs q1 q2 (by rw [← q3]; exact q4 (by have := hW.k1; omega) rfl)
    · have := hF.all h s
      rw [List.take_of_length_le (by rw [s.len]; exact Nat.le_refl _)] at this
      exact this
end
end BH

set_option maxRecDepth 100000
set_option maxHeartbeats 1000000
namespace BH
open PySem PySem.Spec PyProof.Rows L2
section
variable {W : List (List Int)} {kd B : Nat} {sums : List Int}
theorem sol_le (hW : Wt W kd) (hB : ∀ s ∈ sums, s ≤ B) {h : List Int} (s : IsSol W kd sums h) : ∀ z ∈ h, z ≤ B := by
  intro z hz
  obtain ⟨j, hj⟩ := List.mem_iff_getElem?.mp hz
  have hjk : j < kd := by have := (List.getElem?_eq_some_iff.mp hj).1; rw [s.len] at this; exact this
  obtain ⟨r, hr, w, hw, h0⟩ := hW.col j hjk
  have g := dot_ge (r := r) (h := h) (j := j) (fun x hx => ((hW.mat r hr).2 x hx).1) s.nn
  have e1 : r.getD j 0 = w := by simp [List.getD, hw]
  have e2 : h.getD j 0 = z := by simp [List.getD, hj]
  rw [e1, e2] at g
  have := hB (dotZ r h) (by rw [← s.eq]; exact List.mem_map.mpr ⟨r, hr, rfl⟩)
  have h1 := Int.mul_le_mul_of_nonneg_right (show (1 : Int) ≤ w by omega) (s.nn z hz)
  omega
theorem sol_self {h : List Int} (hl : h.length = kd) (hn : ∀ z ∈ h, 0 ≤ z) : IsSol W kd (sumsZ W h) h := ⟨hl, hn, rfl⟩
/-- an exchange as drawn: two heaps of one lot -/
structure Exg (W : List (List Int)) (kd B : Nat) (p : List Int × List Int) : Prop where
  go : ∃ sums, IsSol W kd sums p.1 ∧ IsSol W kd sums p.2 ∧ ∀ s ∈ sums, s ≤ B
def mostOf (kd : Nat) : Nat := [40, 36, 20, 12, 12, 12].getD (kd - 1) 0
theorem most_ok (h1 : 1 ≤ kd) (h6 : kd ≤ 6) : ixM [(40 : Int), (36 : Int), (20 : Int), (12 : Int), (12 : Int), (12 : Int)] ((kd : Int) - 1) = .ok (mostOf kd : Int) ∧ mostOf kd ≤ 40 ∧ (mostOf kd + 1) ^ kd ≤ lim := by
  have : kd = 1 ∨ kd = 2 ∨ kd = 3 ∨ kd = 4 ∨ kd = 5 ∨ kd = 6 := by omega
  rcases this with rfl | rfl | rfl | rfl | rfl | rfl <;> exact ⟨by kernel_rfl, by decide, by decide⟩
theorem Sc.hd (hW : Sc W kd) : ∃ r0, ixM W 0 = .ok r0 ∧ r0.length = kd := by
  obtain ⟨r0, W0, e0⟩ : ∃ r l, W = r :: l := by cases q : W with
    | nil => exact absurd q hW.ne
    | cons r l => exact ⟨r, l, rfl⟩
  exact ⟨r0, by rw [e0]; exact ixM_zero, (hW.mat r0 (by rw [e0]; simp)).1⟩
/-- the lot of a drawn heap -/
theorem lot_of (hW : Sc W kd) {h : List Int} {most : Nat} (hh : Hp' W kd most h) (h40 : most ≤ 1000000) (hlim : (most + 1) ^ kd ≤ lim) : Ok (S_law_lot W (sumsZ W h)) fun L => L ≠ [] ∧ L.Pairwise (· < ·) ∧ (∀ g, g ∈ L ↔ IsSol W kd (sumsZ W h) g) ∧ L.length ≤ lim := by
  refine ok_imp (lot_ok hW.wt (by simp) hh.sums (by omega) hlim) fun L hL => ⟨?_, hL.1, hL.2.1, Nat.le_trans hL.2.2 hlim⟩
  have : h ∈ L := (hL.2.1 h).mpr (sol_self hh.len fun z hz => (hh.rng z hz).1)
  intro z; rw [z] at this; simp at this
theorem book_ok (hW : Sc W kd) {d : List Int} (hd : Dk d) {many : Nat} (hm : many ≤ 1000) : Ok (S_law_book d W many) fun p => (∀ q ∈ p.1, Exg W kd (mostOf kd) q ∧ q.1 ≠ q.2) ∧ p.1.length ≤ many ∧ p.1.Pairwise (fun a b => a ≠ b ∧ (a.2, a.1) ≠ b) ∧ Dk p.2 := by
  unfold S_law_book
  obtain ⟨r0, e0, hr0⟩ := hW.hd
  obtain ⟨m1, m2, m3⟩ := most_ok hW.k1 hW.k6
  rw [e0, M.ok_bind, hr0, m1, M.ok_bind, range1M_ok (by omega), M.ok_bind]
  refine ok_bind (ok_for (fun i (s : List Int × List (List Int × List Int)) => Dk s.1 ∧ (∀ q ∈ s.2, Exg W kd (mostOf kd) q ∧ q.1 ≠ q.2) ∧ s.2.length ≤ i ∧ s.2.Pairwise (fun a b => a ≠ b ∧ (a.2, a.1) ≠ b)) _ 0 (fun i a s hi hs => ?_) _ ⟨hd, by simp, by simp, by simp⟩) fun s hs => ok_ret ⟨hs.2.1, by simpa using hs.2.2.1, hs.2.2.2, hs.1⟩
  obtain ⟨s1, s2, s3, s4⟩ := hs
  have hi2 : i < many := by have := (List.getElem?_eq_some_iff.mp hi).1; simpa using this
  refine ok_bind (heap_ok hW s1 (by omega)) fun r10 h10 => ?_
  rw [sums_ok hW.small, M.ok_bind]
  refine ok_bind (lot_of hW h10.1 (by omega) m3) fun L hL => ?_
  refine ok_bind (pick_ok h10.2 hL.1 hL.2.2.2) fun r13 h13 => ?_
  refine ok_bind (pick_ok h13.2 hL.1 hL.2.2.2) fun r14 h14 => ?_
  refine ok_bind (P := fun b => (∀ q ∈ b, Exg W kd (mostOf kd) q ∧ q.1 ≠ q.2) ∧ b.length ≤ i + 1 ∧ b.Pairwise (fun a b => a ≠ b ∧ (a.2, a.1) ≠ b)) (ok_ite (fun hc => ?_) fun _ => ok_ret ⟨s2, by omega, s4⟩) fun b hb => ok_ret ⟨h14.2, hb.1, by simpa using hb.2.1, hb.2.2⟩
  simp only [Bool.and_eq_true, Bool.not_eq_true', eqD_false, memD_false] at hc
  rw [appM_ok (by unfold lim; omega), M.ok_bind]
  refine ok_ret ⟨fun q hq => ?_, by simp; omega, ?_⟩
  · rcases List.mem_append.mp hq with z | z
    · exact s2 q z
    · rw [List.mem_singleton] at z; subst z
      exact ⟨⟨_, (hL.2.2.1 _).mp h13.1, (hL.2.2.1 _).mp h14.1, h10.1.sums⟩, hc.1⟩
  · rw [List.pairwise_append]
    refine ⟨s4, by simp, fun a ha b hb => ?_⟩
    rw [List.mem_singleton] at hb; subst hb
    exact ⟨fun z => hc.2.1 (z ▸ ha), fun z => hc.2.2 (by
      have : (r14.1, r13.1) = a := by
        obtain ⟨a1, a2⟩ := a
        simp only [Prod.mk.injEq] at z ⊢
        exact ⟨z.2.symm, z.1.symm⟩
      rw [this]; exact ha)⟩
end
end BH

set_option maxRecDepth 100000
set_option maxHeartbeats 1000000
namespace BH
open PySem PySem.Spec PyProof.Rows L2
theorem ok_forTN {α σ ρ : Type} {f : α → σ → M (Lp σ ρ)} (P : Nat → σ → Prop) : ∀ (xs : List α) (k : Nat), (∀ (i : Nat) a s, xs[i]? = some a → P (k + i) s → Ok (f a s) fun l => ∃ s', l = .nx s' ∧ P (k + i + 1) s') → ∀ s, P k s → Ok (forL f xs s) fun l => ∃ s', l = .nx s' ∧ P (k + xs.length) s'
  | [], k, _, s, p => ok_ret ⟨s, rfl, p⟩
  | a :: as, k, h, s, p => by
    unfold forL
    refine ok_bind (h 0 a s rfl p) fun l hl => ?_
    obtain ⟨s', rfl, p'⟩ := hl
    have := ok_forTN P as (k + 1) (fun i b t hi q => by
      have := h (i + 1) b t (by simpa using hi) (by rw [← Nat.add_assoc, Nat.add_right_comm]; exact q)
      rw [show k + (i + 1) = k + 1 + i by omega] at this
      exact this) s' p'
    rw [List.length_cons, show k + (as.length + 1) = k + 1 + as.length by omega]
    exact this
/-! ### repr -/
theorem strOk_of (s : String) : PyData.strOk (Str.ofString s) = true := by
  rw [Str.ofString_eq_toList]
  unfold PyData.strOk
  simp only [List.all_toArray, List.all_map, List.all_eq_true, Function.comp_apply, decide_eq_true_eq]
  intro c _
  have := c.valid
  have h : c.toNat.isValidChar := this
  rcases h with h | h <;> omega
theorem strOk_app (x y : Str) (hx : PyData.strOk x = true) (hy : PyData.strOk y = true) : PyData.strOk (x ++ y) = true := by
  show (x.cps ++ y.cps).all _ = true
  rw [Array.all_append]
  simp only [Bool.and_eq_true]
  exact ⟨hx, hy⟩
theorem strOk_join : ∀ ts : List Str, (∀ t ∈ ts, PyData.strOk t = true) → PyData.strOk (Str.join ", " ts) = true
  | [], _ => by simp [Str.join, Str.empty, PyData.strOk]
  | [x], h => h x (by simp)
  | x :: y :: r, h => by
    show PyData.strOk (x ++ ", " ++ Str.join ", " (y :: r)) = true
    exact strOk_app _ _ (strOk_app _ _ (h x (by simp)) (strOk_of ", ")) (strOk_join (y :: r) fun t ht => h t (by simp [ht]))
structure Sm (w d : Nat) (x : PyData) : Prop where
  le : x.leavesShort 20 = true
  sh : x.showable = true
  nd : x.hasDict = false
  ok : PyData.strOk x.shown = true
  wt : x.weight ≤ w
  dp : x.depth ≤ d
theorem sm_int {i : Int} (h : i.natAbs < 10000) : Sm 15 0 (.int i) := by
  have hl : i.natAbs ≠ 0 → i.natAbs.log2 < 14 := fun z => (Nat.log2_lt z).mpr (by omega)
  have hl2 : i.natAbs.log2 < 14 := by
    by_cases z : i.natAbs = 0
    · rw [z]; decide
    · exact hl z
  refine ⟨?_, ?_, by simp only [PyData.hasDict], ?_, ?_, by simp only [PyData.depth]; omega⟩
  · simp only [PyData.leavesShort]
    refine decide_eq_true ?_
    have := int_text_length_le10 (a := i) (k := 4) (by decide) (by omega)
    have e : (PyData.int i).shown.length = (toString i).length := by rw [PyData.shown_int, PySem.ofString_length]
    omega
  · simp only [PyData.showable, decide_eq_true_eq]; omega
  · simp only [PyData.shown]; exact strOk_of _
  · simp only [PyData.weight]
    split <;> omega
theorem sm_all {w d : Nat} : ∀ {xs : List PyData}, (∀ x ∈ xs, Sm w d x) → PyData.leavesShortAll 20 xs = true ∧ PyData.showableAll xs = true ∧ PyData.hasDictAll xs = false ∧ (∀ t ∈ PyData.shownAll xs, PyData.strOk t = true) ∧ PyData.weightAll xs ≤ (w + 1) * xs.length ∧ PyData.depthAll xs ≤ d
  | [], _ => by simp [PyData.leavesShortAll, PyData.showableAll, PyData.hasDictAll, PyData.shownAll, PyData.weightAll, PyData.depthAll]
  | x :: xs, h => by
    obtain ⟨h1, h2, h3, h4, h5, h6⟩ := sm_all fun y hy => h y (List.mem_cons_of_mem _ hy)
    have hx := h x List.mem_cons_self
    refine ⟨?_, ?_, ?_, ?_, ?_, ?_⟩
    · simp only [PyData.leavesShortAll, hx.le, h1, Bool.and_self]
    · simp only [PyData.showableAll, hx.sh, h2, Bool.and_self]
    · simp only [PyData.hasDictAll, hx.nd, h3, Bool.or_self]
    · simp only [PyData.shownAll, List.mem_cons]
      rintro t (rfl | ht)
      · exact hx.ok
      · exact h4 t ht
    · simp only [PyData.weightAll, List.length_cons, Nat.mul_add, Nat.mul_one]
      have := hx.wt
      omega
    · simp only [PyData.depthAll]
      have := hx.dp
      omega
theorem sm_tuple {w d n : Nat} {xs : List PyData} (h : ∀ x ∈ xs, Sm w d x) (hn : xs.length ≤ n) : Sm ((w + 1) * n) (d + 1) (.tuple xs) := by
  obtain ⟨h1, h2, h3, h4, h5, h6⟩ := sm_all h
  have h7 : (w + 1) * xs.length ≤ (w + 1) * n := Nat.mul_le_mul_left _ hn
  refine ⟨by simp only [PyData.leavesShort, h1], by simp only [PyData.showable, h2], by simp only [PyData.hasDict, h3], ?_, by simp only [PyData.weight]; omega, by simp only [PyData.depth]; omega⟩
  rw [PyData.shown_tuple]
  exact strOk_app _ _ (strOk_app _ _ (strOk_of "(") (strOk_join _ h4)) (strOk_of _)
theorem sm_list {w d n : Nat} {xs : List PyData} (h : ∀ x ∈ xs, Sm w d x) (hn : xs.length ≤ n) : Sm ((w + 1) * n) (d + 1) (.list xs) := by
  obtain ⟨h1, h2, h3, h4, h5, h6⟩ := sm_all h
  have h7 : (w + 1) * xs.length ≤ (w + 1) * n := Nat.mul_le_mul_left _ hn
  refine ⟨by simp only [PyData.leavesShort, h1], by simp only [PyData.showable, h2], by simp only [PyData.hasDict, h3], ?_, by simp only [PyData.weight]; omega, by simp only [PyData.depth]; omega⟩
  rw [PyData.shown_list]
  exact strOk_app _ _ (strOk_app _ _ (strOk_of "[") (strOk_join _ h4)) (strOk_of "]")
theorem Sm.mono {w d w' d' : Nat} {x : PyData} (h : Sm w d x) (hw : w ≤ w') (hd : d ≤ d') : Sm w' d' x := ⟨h.le, h.sh, h.nd, h.ok, Nat.le_trans h.wt hw, Nat.le_trans h.dp hd⟩
theorem Sm.len {w d : Nat} {x : PyData} (h : Sm w d x) (hw : w ≤ 100000) : x.shown.length ≤ lim := by
  have h1 := PyData.shown_le 20 (by decide) x h.le
  have h2 : 22 * x.weight ≤ 22 * 100000 := Nat.mul_le_mul_left _ (Nat.le_trans h.wt hw)
  unfold lim
  omega
theorem sm_bool {w d : Nat} (b : Bool) : Sm w d (.bool b) := by
  refine ⟨?_, by simp only [PyData.showable], by simp only [PyData.hasDict], ?_, by simp only [PyData.weight]; omega, by simp only [PyData.depth]; omega⟩
  · cases b <;> simp [PyData.leavesShort]
  · simp only [PyData.shown]; cases b <;> exact strOk_of _
theorem sm_none {w d : Nat} : Sm w d .none := by
  refine ⟨by simp [PyData.leavesShort], by simp only [PyData.showable], by simp only [PyData.hasDict], ?_, by simp only [PyData.weight]; omega, by simp only [PyData.depth]; omega⟩
  simp only [PyData.shown]; exact strOk_of _
theorem Sm.repr {w d : Nat} {x : PyData} (h : Sm w d x) (hw : w ≤ 100000) (hd : d ≤ 60) : reprM x = .ok x.shown := by
  unfold reprM
  exact if_pos ⟨h.sh, h.nd, Nat.le_trans h.dp hd, h.len hw⟩
/-- a heap -/
theorem sm_ints {xs : List Int} {n : Nat} (h : ∀ z ∈ xs, z.natAbs < 10000) (hn : xs.length ≤ n) : Sm (16 * n) 1 (eT PyData.int xs) :=
  sm_tuple (w := 15) (d := 0) (fun x hx => by obtain ⟨i, hi, rfl⟩ := List.mem_map.mp hx; exact sm_int (h i hi)) (by simpa using hn)
theorem sm_pair {w d : Nat} {x y : PyData} (hx : Sm w d x) (hy : Sm w d y) : Sm ((w + 1) * 2) (d + 1) (.tuple [x, y]) :=
  sm_tuple (fun z hz => by
    rcases List.mem_cons.mp hz with rfl | hz
    · exact hx
    · rw [List.mem_singleton] at hz; subst hz; exact hy) (by simp)
theorem eqS_same {s : Str} (h : PyData.strOk s = true) : eqSM s s = .ok true := by
  unfold eqSM
  have : SeqAt.shaped (.str s) = true := by simp [SeqAt.shaped, PyData.canLay0, PyData.depth, h]
  rw [if_pos ⟨this, this⟩]; simp
theorem Sm.same {w d : Nat} {x : PyData} (h : Sm w d x) : eqSM x.shown x.shown = .ok true := eqS_same h.ok
end BH

set_option maxRecDepth 100000
set_option maxHeartbeats 1000000
namespace BH
open PySem PySem.Spec PyProof.Rows L2
/-! ### repr of greater numbers -/
structure Sg (w d : Nat) (x : PyData) : Prop where
  le : x.leavesShort 60 = true
  sh : x.showable = true
  nd : x.hasDict = false
  ok : PyData.strOk x.shown = true
  wt : x.weight ≤ w
  dp : x.depth ≤ d
theorem sg_int {i : Int} (h : i.natAbs < 10 ^ 50) : Sg 170 0 (.int i) := by
  have hl2 : i.natAbs.log2 < 169 := by
    by_cases z : i.natAbs = 0
    · rw [z]; decide
    · exact (Nat.log2_lt z).mpr (Nat.lt_of_lt_of_le h (by decide))
  refine ⟨?_, ?_, by simp only [PyData.hasDict], ?_, ?_, by simp only [PyData.depth]; omega⟩
  · simp only [PyData.leavesShort]
    refine decide_eq_true ?_
    have := int_text_length_le10 (a := i) (k := 50) (by decide) h
    have e : (PyData.int i).shown.length = (toString i).length := by rw [PyData.shown_int, PySem.ofString_length]
    omega
  · simp only [PyData.showable, decide_eq_true_eq]; omega
  · simp only [PyData.shown]; exact strOk_of _
  · simp only [PyData.weight]
    split <;> omega
theorem sg_all {w d : Nat} : ∀ {xs : List PyData}, (∀ x ∈ xs, Sg w d x) → PyData.leavesShortAll 60 xs = true ∧ PyData.showableAll xs = true ∧ PyData.hasDictAll xs = false ∧ (∀ t ∈ PyData.shownAll xs, PyData.strOk t = true) ∧ PyData.weightAll xs ≤ (w + 1) * xs.length ∧ PyData.depthAll xs ≤ d
  | [], _ => by simp [PyData.leavesShortAll, PyData.showableAll, PyData.hasDictAll, PyData.shownAll, PyData.weightAll, PyData.depthAll]
  | x :: xs, h => by
    obtain ⟨h1, h2, h3, h4, h5, h6⟩ := sg_all fun y hy => h y (List.mem_cons_of_mem _ hy)
    have hx := h x List.mem_cons_self
    refine ⟨?_, ?_, ?_, ?_, ?_, ?_⟩
    · simp only [PyData.leavesShortAll, hx.le, h1, Bool.and_self]
    · simp only [PyData.showableAll, hx.sh, h2, Bool.and_self]
    · simp only [PyData.hasDictAll, hx.nd, h3, Bool.or_self]
    · simp only [PyData.shownAll, List.mem_cons]
      rintro t (rfl | ht)
      · exact hx.ok
      · exact h4 t ht
    · simp only [PyData.weightAll, List.length_cons, Nat.mul_add, Nat.mul_one]
      have := hx.wt
      omega
    · simp only [PyData.depthAll]
      have := hx.dp
      omega
theorem sg_tuple {w d n : Nat} {xs : List PyData} (h : ∀ x ∈ xs, Sg w d x) (hn : xs.length ≤ n) : Sg ((w + 1) * n) (d + 1) (.tuple xs) := by
  obtain ⟨h1, h2, h3, h4, h5, h6⟩ := sg_all h
  have h7 : (w + 1) * xs.length ≤ (w + 1) * n := Nat.mul_le_mul_left _ hn
  refine ⟨by simp only [PyData.leavesShort, h1], by simp only [PyData.showable, h2], by simp only [PyData.hasDict, h3], ?_, by simp only [PyData.weight]; omega, by simp only [PyData.depth]; omega⟩
  rw [PyData.shown_tuple]
  exact strOk_app _ _ (strOk_app _ _ (strOk_of "(") (strOk_join _ h4)) (strOk_of _)
theorem sg_list {w d n : Nat} {xs : List PyData} (h : ∀ x ∈ xs, Sg w d x) (hn : xs.length ≤ n) : Sg ((w + 1) * n) (d + 1) (.list xs) := by
  obtain ⟨h1, h2, h3, h4, h5, h6⟩ := sg_all h
  have h7 : (w + 1) * xs.length ≤ (w + 1) * n := Nat.mul_le_mul_left _ hn
  refine ⟨by simp only [PyData.leavesShort, h1], by simp only [PyData.showable, h2], by simp only [PyData.hasDict, h3], ?_, by simp only [PyData.weight]; omega, by simp only [PyData.depth]; omega⟩
  rw [PyData.shown_list]
  exact strOk_app _ _ (strOk_app _ _ (strOk_of "[") (strOk_join _ h4)) (strOk_of "]")
theorem Sg.mono {w d w' d' : Nat} {x : PyData} (h : Sg w d x) (hw : w ≤ w') (hd : d ≤ d') : Sg w' d' x := ⟨h.le, h.sh, h.nd, h.ok, Nat.le_trans h.wt hw, Nat.le_trans h.dp hd⟩
theorem Sg.len {w d : Nat} {x : PyData} (h : Sg w d x) (hw : w ≤ 100000) : x.shown.length ≤ lim := by
  have h1 := PyData.shown_le 60 (by decide) x h.le
  have h2 : 62 * x.weight ≤ 62 * 100000 := Nat.mul_le_mul_left _ (Nat.le_trans h.wt hw)
  unfold lim
  omega
theorem sg_bool {w d : Nat} (b : Bool) : Sg w d (.bool b) := by
  refine ⟨?_, by simp only [PyData.showable], by simp only [PyData.hasDict], ?_, by simp only [PyData.weight]; omega, by simp only [PyData.depth]; omega⟩
  · cases b <;> simp [PyData.leavesShort]
  · simp only [PyData.shown]; cases b <;> exact strOk_of _
theorem sg_none {w d : Nat} : Sg w d .none := by
  refine ⟨by simp [PyData.leavesShort], by simp only [PyData.showable], by simp only [PyData.hasDict], ?_, by simp only [PyData.weight]; omega, by simp only [PyData.depth]; omega⟩
  simp only [PyData.shown]; exact strOk_of _
theorem Sg.repr {w d : Nat} {x : PyData} (h : Sg w d x) (hw : w ≤ 100000) (hd : d ≤ 60) : reprM x = .ok x.shown := by
  unfold reprM
  exact if_pos ⟨h.sh, h.nd, Nat.le_trans h.dp hd, h.len hw⟩
/-- a heap -/
theorem sg_ints {xs : List Int} {n : Nat} (h : ∀ z ∈ xs, z.natAbs < 10 ^ 50) (hn : xs.length ≤ n) : Sg (171 * n) 1 (eT PyData.int xs) :=
  sg_tuple (w := 170) (d := 0) (fun x hx => by obtain ⟨i, hi, rfl⟩ := List.mem_map.mp hx; exact sg_int (h i hi)) (by simpa using hn)
theorem sg_pair {w d : Nat} {x y : PyData} (hx : Sg w d x) (hy : Sg w d y) : Sg ((w + 1) * 2) (d + 1) (.tuple [x, y]) :=
  sg_tuple (fun z hz => by
    rcases List.mem_cons.mp hz with rfl | hz
    · exact hx
    · rw [List.mem_singleton] at hz; subst hz; exact hy) (by simp)
theorem Sg.same {w d : Nat} {x : PyData} (h : Sg w d x) : eqSM x.shown x.shown = .ok true := eqS_same h.ok
end BH

set_option maxRecDepth 100000
set_option maxHeartbeats 4000000
namespace BH.K20
open PySem PySem.Spec PyProof.Rows L2
/-- _law_sum_row(deck, scale): slots deck, scale, found, row, times, kind, number, weight -/
def f_law_sum_row : SF :=
  (fSeqS (fFrzS 2 (fSet 2 (fComp (fSeq (fBin opIx (fName 1) (fC (.int 0)))) (bName 5) [5] fYes (fTake (fC (.int 0)))))) (fSeqS (fFor (fSeq (fName 1)) (bName 3) (fSeqS (fSet 4 (fBin opMul (fBin opSub (fCallF 2 F_law_draw (aRef 0 (aDat (fTake (fC (.int 9))) aNil))) (fC (.int 4))) (fBin opIx (fLst (fCons (fTake (fC (.int 1))) (fCons (fTake (fC (.int 1))) (fCons (fTake (fBin opPow (fC (.int 10)) (fC (.int 30)))) fNil)))) (fCallF 2 F_law_draw (aRef 0 (aDat (fTake (fC (.int 3))) aNil)))))) (fSeqS (fFrzS 2 (fSet 2 (fComp (fZipM (fCons (fTake (fName 2)) (fCons (fTake (fName 3)) fNil))) (bTup (bCons (bName 6) (bCons (bName 7) bNil))) [6, 7] fYes (fTake (fBin opAdd (fName 6) (fBin opMul (fName 4) (fName 7))))))) fNextS))) (fSeqS (fRet (fCall opTuple (fPCons (fName 2) fPNil))) fNextS)))
def F_law_sum_row : List Arg → FRes := fnF 8 f_law_sum_row
/-- _law_number_row(deck, kinds): slots deck, kinds, far, kind -/
def f_law_number_row : SF :=
  (fSeqS (fFrzS 2 (fSet 2 (fBin opIx (fLst (fCons (fTake (fC (.int 1))) (fCons (fTake (fC (.int 1))) (fCons (fTake (fBin opPow (fC (.int 10)) (fC (.int 9)))) (fCons (fTake (fBin opPow (fC (.int 10)) (fC (.int 36)))) fNil))))) (fCallF 2 F_law_draw (aRef 0 (aDat (fTake (fC (.int 4))) aNil)))))) (fSeqS (fRet (fCall opTuple (fPCons (fComp (fRng1 (fPCons (fName 1) fPNil)) (bName 3) [3] fYes (fTake (fBin opSub (fBin opAdd (fBin opMul (fBin opSub (fCallF 2 F_law_draw (aRef 0 (aDat (fTake (fC (.int 13))) aNil))) (fC (.int 6))) (fName 2)) (fCallF 2 F_law_draw (aRef 0 (aDat (fTake (fC (.int 3))) aNil)))) (fC (.int 1))))) fPNil))) fNextS))
def F_law_number_row : List Arg → FRes := fnF 4 f_law_number_row
/-- _law_bent_row(deck, row): slots deck, row, at -/
def f_law_bent_row : SF :=
  (fSeqS (fFrzS 2 (fSet 2 (fCallF 2 F_law_draw (aRef 0 (aDat (fTake (fCall opLen (fPCons (fName 1) fPNil))) aNil))))) (fSeqS (fRet (fBin opAdd (fBin opAdd (fSl (fName 1) fNoPart (fPart (fName 2))) (fTup (fCons (fTake (fBin opAdd (fBin opIx (fName 1) (fName 2)) (fBin opIx (fLst (fCons (fTake (fC (.int 1))) (fCons (fTake (fNeg (fC (.int 1)))) fNil))) (fCallF 2 F_law_draw (aRef 0 (aDat (fTake (fC (.int 2))) aNil)))))) fNil))) (fSl (fName 1) (fPart (fBin opAdd (fName 2) (fC (.int 1)))) fNoPart))) fNextS))
def F_law_bent_row : List Arg → FRes := fnF 3 f_law_bent_row
/-- _law_keeps(book, row): slots book, row, take, put -/
def f_law_keeps : SF :=
  (fSeqS (fRet (fBin (opEq false) (fComp (fSeq (fName 0)) (bTup (bCons (bName 2) (bCons (bName 3) bNil))) [2, 3] (fTru (fBin (opEq true) (fCallF 2 F_law_dot (aDat (fTake (fName 1)) (aDat (fTake (fName 2)) aNil))) (fCallF 2 F_law_dot (aDat (fTake (fName 1)) (aDat (fTake (fName 3)) aNil))))) (fTake (fC (.int 1)))) (fLst fNil))) fNextS)
def F_law_keeps : List Arg → FRes := fnF 4 f_law_keeps
/-- law(script): slots script, deck, turn, scale, book, rows, row, shown, kind -/
def f_law : SF :=
  (fSeqS (fSet 1 (fCallF 1 F_law_deck (aDat (fTake (fName 0)) aNil))) (fSeqS (fFor (fRng1 (fPCons (fC (.int 8)) fPNil)) (bName 2) (fSeqS (fFrzS 3 (fSet 3 (fCallF 1 F_law_scale (aRef 1 aNil)))) (fSeqS (fFrzS 4 (fSet 4 (fCallF 3 F_law_book (aRef 1 (aDat (fTake (fName 3)) (aDat (fTake (fCallF 2 F_law_draw (aRef 1 (aDat (fTake (fC (.int 6))) aNil)))) aNil)))))) (fSeqS (fFrzS 5 (fSet 5 (fLst (fCons (fTake (fCallF 2 F_law_sum_row (aRef 1 (aDat (fTake (fName 3)) aNil)))) (fCons (fTake (fCallF 2 F_law_number_row (aRef 1 (aDat (fTake (fCall opLen (fPCons (fBin opIx (fName 3) (fC (.int 0))) fPNil))) aNil)))) (fCons (fTake (fCall opTuple (fPCons (fComp (fSeq (fBin opIx (fName 3) (fC (.int 0)))) (bName 8) [8] fYes (fTake (fC (.int 0)))) fPNil))) fNil)))))) (fSeqS (fFrzS 5 (fSet 5 (fBin opAdd (fName 5) (fLst (fCons (fTake (fCallF 2 F_law_bent_row (aRef 1 (aDat (fTake (fBin opIx (fName 5) (fC (.int 0)))) aNil)))) (fCons (fTake (fCallF 2 F_law_bent_row (aRef 1 (aDat (fTake (fBin opIx (fName 5) (fC (.int 2)))) aNil)))) (fCons (fTake (fBin opIx (fName 3) (fCallF 2 F_law_draw (aRef 1 (aDat (fTake (fCall opLen (fPCons (fName 3) fPNil))) aNil))))) fNil))))))) (fSeqS (fFor (fSeq (fName 5)) (bName 6) (fSeqS (fSet 7 (fCall opReprA (fPCons (fTup (fCons (fTake (fName 4)) (fCons (fTake (fName 6)) fNil))) fPNil))) (fSeqS (fIfS (fOr (fTru (fBin (opEq true) (fCall opReprA (fPCons (fCallF 2 F_is_kept (aDat (fTake (fName 4)) (aDat (fTake (fName 6)) aNil))) fPNil)) (fCall opReprA (fPCons (fCallF 2 F_law_keeps (aDat (fTake (fName 4)) (aDat (fTake (fName 6)) aNil))) fPNil)))) (fTru (fBin (opEq true) (fCall opReprA (fPCons (fTup (fCons (fTake (fName 4)) (fCons (fTake (fName 6)) fNil))) fPNil)) (fName 7)))) (fSeqS (fRet (fC (.bool false))) fNextS) fNextS) (fSeqS (fIfS (fOr (fTru (fBin (opEq true) (fCall opReprA (fPCons (fCallF 2 F_is_kept (aDat (fTake (fTup fNil)) (aDat (fTake (fName 6)) aNil))) fPNil)) (fC (.str (Str.ofString "True"))))) (fTru (fBin (opEq true) (fCall opReprA (fPCons (fCallF 2 F_is_kept (aDat (fTake (fName 4)) (aDat (fTake (fName 6)) aNil))) fPNil)) (fCall opReprA (fPCons (fCallF 2 F_law_keeps (aDat (fTake (fName 4)) (aDat (fTake (fName 6)) aNil))) fPNil))))) (fSeqS (fRet (fC (.bool false))) fNextS) fNextS) fNextS)))) fNextS)))))) (fSeqS (fRet (fC (.bool true))) fNextS)))
def F_law : List Arg → FRes := fnF 9 f_law
def S_law_sum_row (deck_ : List Int) (scale_ : List (List Int)) : M ((List Int) × (List Int)) :=
  ixM scale_ (0 : Int) >>= fun it1 =>
  lenG (List.map (fun (a2 : Int) => (0 : Int)) it1) >>= fun xs3 =>
  forM' (fun (a7 : List Int) (s4 : (List Int) × (List Int)) =>
  S_law_draw s4.1 (9 : Int) >>= fun r8 =>
  S_law_draw r8.2 (3 : Int) >>= fun r9 =>
  ixM [(1 : Int), (1 : Int), ((10 : Int) ^ ((30 : Int)).toNat)] r9.1 >>= fun it10 =>
  mulM (r8.1 - (4 : Int)) it10 >>= fun mul11 =>
  compP (fun (a12 : Int × Int) => mulM mul11 a12.2 >>= fun mul13 =>
  .ok (some (a12.1 + mul13))) (List.zip s4.2 a7) >>= fun xs14 =>
  .ok (r9.2, xs14)) scale_ (deck_, xs3) >>= fun s4 =>
  .ok (s4.2, s4.1)
theorem L_law_sum_row (deck_ : List Int) (scale_ : List (List Int)) : FSim (F_law_sum_row [.bor (.lst (List.map PyData.int deck_)), .d ((eT (eT PyData.int)) scale_)]) (S_law_sum_row deck_ scale_) (fun (r : (List Int) × (List Int)) => Ret.d ((eT PyData.int) r.1)) (fun (r : (List Int) × (List Int)) => [.bor (.lst (List.map PyData.int r.2)), .d ((eT (eT PyData.int)) scale_)]) := by
  refine fs_mk ?_
  unfold S_law_sum_row
  refine sim_bnd0 ?_
  have e0 : envOf 8 [.bor (.lst (List.map PyData.int deck_)), .d ((eT (eT PyData.int)) scale_)] = [some (.cell .bor (.lst (List.map PyData.int deck_))), some (.d ((eT (eT PyData.int)) scale_)), none, none, none, none, none, none] := rfl
  rw [e0]
  unfold f_law_sum_row
  refine c_blk ?_
  refine c_frz ?_
  refine c_set ?_
  refine c_comp ?_
  refine c_seq ?_
  refine c_bin ?_
  refine c_name rfl ?_
  refine c_const ?_
  refine b_part (u := (eT (eT PyData.int)) scale_) rfl rfl (ixS (e := (eT PyData.int)) (xs := scale_) rfl) ?_
  intro it1
  refine sq_T (ds := List.map PyData.int it1) rfl ?_
  refine co_m (enc' := PyData.int) (el := [some (.cell .bor (.lst (List.map PyData.int deck_))), some (.d ((eT (eT PyData.int)) scale_)), none, none, none, none, none, none]) rfl (nc_cons rfl datO_none nc_nil) rfl ?_ ?_
  · intro a2
    refine ⟨[some (.cell .bor (.lst (List.map PyData.int deck_))), some (.d ((eT (eT PyData.int)) scale_)), none, none, none, some (.d (PyData.int a2)), none, none], (bn (e' := [some (.cell .bor (.lst (List.map PyData.int deck_))), some (.d ((eT (eT PyData.int)) scale_)), none, none, none, some (.d (PyData.int a2)), none, none]) rfl okO_none rfl), ?_⟩
    refine c_turnY ?_
    refine c_take ?_
    refine c_const ?_
    refine t_pure rfl ?_
    exact sim_ret ⟨rfl, rfl⟩
  intro xs3
  refine as_t (e' := [some (.cell .bor (.lst (List.map PyData.int deck_))), some (.d ((eT (eT PyData.int)) scale_)), some (.cell .own (.lst (List.map PyData.int xs3))), none, none, none, none, none]) rfl okO_none rfl ?_
  refine fz_t (v := (eL PyData.int) xs3) (e' := [some (.cell .bor (.lst (List.map PyData.int deck_))), some (.d ((eT (eT PyData.int)) scale_)), some (.d ((eL PyData.int) xs3)), none, none, none, none, none]) rfl ?_
  refine c_blk1 ?_
  refine c_for ?_
  refine c_seq ?_
  refine c_name rfl ?_
  refine sq_T (ds := List.map (eT PyData.int) scale_) rfl ?_
  refine fo_n (fun (s4 : (List Int) × (List Int)) (e : SE) => ∃ (o5 : Option MV), ∃ (o6 : Option MV), datO o5 ∧ datO o6 ∧ e = [some (.cell .bor (.lst (List.map PyData.int s4.1))), some (.d ((eT (eT PyData.int)) scale_)), some (.d ((eL PyData.int) s4.2)), o5, o6, none, none, none]) ⟨_, _, datO_none, datO_none, rfl⟩ (fun _ _ => trivial) ?_ ?_
  · intro a7 s4 e hK
    obtain ⟨o5, o6, ho5, ho6, he⟩ := hK
    subst he
    refine ⟨[some (.cell .bor (.lst (List.map PyData.int s4.1))), some (.d ((eT (eT PyData.int)) scale_)), some (.d ((eL PyData.int) s4.2)), some (.d ((eT PyData.int) a7)), o6, none, none, none], (bn (e' := [some (.cell .bor (.lst (List.map PyData.int s4.1))), some (.d ((eT (eT PyData.int)) scale_)), some (.d ((eL PyData.int) s4.2)), some (.d ((eT PyData.int) a7)), o6, none, none, none]) rfl (datO.ok ho5) rfl), ?_⟩
    refine sim_bnd0 ?_
    refine c_blk ?_
    refine c_set ?_
    refine c_bin ?_
    refine c_bin ?_
    refine c_callF ?_
    refine c_aref rfl ?_
    refine c_adat ?_
    refine c_take ?_
    refine c_const ?_
    refine t_pure rfl ?_
    refine c_anil ?_
    refine cf_s (e2 := fun r8 => [some (.cell .bor (.lst (List.map PyData.int r8.2))), some (.d ((eT (eT PyData.int)) scale_)), some (.d ((eL PyData.int) s4.2)), some (.d ((eT PyData.int) a7)), o6, none, none, none]) (L_law_draw s4.1 (9 : Int)) (show List.Nodup ([0] : List Nat) by decide) rfl rfl (fun _ => rfl) (fun _ => trivial) ?_
    intro r8
    refine c_const ?_
    refine b_pure rfl rfl rfl ?_
    refine c_bin ?_
    refine c_lst ?_
    refine c_cons ?_
    refine c_take ?_
    refine c_const ?_
    refine t_pure rfl ?_
    refine c_cons ?_
    refine c_take ?_
    refine c_const ?_
    refine t_pure rfl ?_
    refine c_cons ?_
    refine c_take ?_
    refine c_bin ?_
    refine c_const ?_
    refine c_const ?_
    refine b_pure rfl rfl (pow_lit (by decide +kernel)) ?_
    refine t_pure rfl ?_
    refine c_nil ?_
    refine ls_pure (ys := List.map PyData.int [(1 : Int), (1 : Int), ((10 : Int) ^ ((30 : Int)).toNat)]) rfl rfl ?_
    refine c_callF ?_
    refine c_aref rfl ?_
    refine c_adat ?_
    refine c_take ?_
    refine c_const ?_
    refine t_pure rfl ?_
    refine c_anil ?_
    refine cf_s (e2 := fun r9 => [some (.cell .bor (.lst (List.map PyData.int r9.2))), some (.d ((eT (eT PyData.int)) scale_)), some (.d ((eL PyData.int) s4.2)), some (.d ((eT PyData.int) a7)), o6, none, none, none]) (L_law_draw r8.2 (3 : Int)) (show List.Nodup ([0] : List Nat) by decide) rfl rfl (fun _ => rfl) (fun _ => trivial) ?_
    intro r9
    refine b_part (u := (eL PyData.int) [(1 : Int), (1 : Int), ((10 : Int) ^ ((30 : Int)).toNat)]) rfl rfl (ixS (e := PyData.int) (xs := [(1 : Int), (1 : Int), ((10 : Int) ^ ((30 : Int)).toNat)]) rfl) ?_
    intro it10
    refine b_part rfl rfl mulS ?_
    intro mul11
    refine as_d (e' := [some (.cell .bor (.lst (List.map PyData.int r9.2))), some (.d ((eT (eT PyData.int)) scale_)), some (.d ((eL PyData.int) s4.2)), some (.d ((eT PyData.int) a7)), some (.d (PyData.int mul11)), none, none, none]) rfl (datO.ok ho6) rfl ?_
    refine c_blk1 ?_
    refine c_frz ?_
    refine c_set ?_
    refine c_comp ?_
    refine c_zipM ?_
    refine c_cons ?_
    refine c_take ?_
    refine c_name rfl ?_
    refine t_pure rfl ?_
    refine c_cons ?_
    refine c_take ?_
    refine c_name rfl ?_
    refine t_pure rfl ?_
    refine c_nil ?_
    refine z_pure (e := PyData.int) (f := PyData.int) (xs := s4.2) (ys := a7) rfl rfl ?_
    refine co_p (enc' := PyData.int) (el := [some (.cell .bor (.lst (List.map PyData.int r9.2))), some (.d ((eT (eT PyData.int)) scale_)), some (.d ((eL PyData.int) s4.2)), some (.d ((eT PyData.int) a7)), some (.d (PyData.int mul11)), none, none, none]) rfl (nc_cons rfl datO_none (nc_cons rfl datO_none nc_nil)) rfl ?_ ?_
    · intro a12
      refine ⟨[some (.cell .bor (.lst (List.map PyData.int r9.2))), some (.d ((eT (eT PyData.int)) scale_)), some (.d ((eL PyData.int) s4.2)), some (.d ((eT PyData.int) a7)), some (.d (PyData.int mul11)), none, some (.d (PyData.int a12.1)), some (.d (PyData.int a12.2))], (bt_tup rfl (bt_cons (bn (e' := [some (.cell .bor (.lst (List.map PyData.int r9.2))), some (.d ((eT (eT PyData.int)) scale_)), some (.d ((eL PyData.int) s4.2)), some (.d ((eT PyData.int) a7)), some (.d (PyData.int mul11)), none, some (.d (PyData.int a12.1)), none]) rfl okO_none rfl) (bt_cons (bn (e' := [some (.cell .bor (.lst (List.map PyData.int r9.2))), some (.d ((eT (eT PyData.int)) scale_)), some (.d ((eL PyData.int) s4.2)), some (.d ((eT PyData.int) a7)), some (.d (PyData.int mul11)), none, some (.d (PyData.int a12.1)), some (.d (PyData.int a12.2))]) rfl okO_none rfl) bt_nil))), ?_⟩
      refine c_turnY ?_
      refine c_take ?_
      refine c_bin ?_
      refine c_name rfl ?_
      refine c_bin ?_
      refine c_name rfl ?_
      refine c_name rfl ?_
      refine b_part rfl rfl mulS ?_
      intro mul13
      refine b_pure rfl rfl rfl ?_
      refine t_pure rfl ?_
      exact sim_ret ⟨rfl, rfl⟩
    intro xs14
    refine as_t (e' := [some (.cell .bor (.lst (List.map PyData.int r9.2))), some (.d ((eT (eT PyData.int)) scale_)), some (.cell .own (.lst (List.map PyData.int xs14))), some (.d ((eT PyData.int) a7)), some (.d (PyData.int mul11)), none, none, none]) rfl okO_d rfl ?_
    refine fz_t (v := (eL PyData.int) xs14) (e' := [some (.cell .bor (.lst (List.map PyData.int r9.2))), some (.d ((eT (eT PyData.int)) scale_)), some (.d ((eL PyData.int) xs14)), some (.d ((eT PyData.int) a7)), some (.d (PyData.int mul11)), none, none, none]) rfl ?_
    refine c_end1 ?_
    exact sim_ret ⟨.inl rfl, ⟨_, _, datO_d, datO_d, rfl⟩⟩
  intro s4 e hK e' hu
  obtain ⟨o5, o6, ho5, ho6, he⟩ := hK
  obtain rfl : e' = [some (.cell .bor (.lst (List.map PyData.int s4.1))), some (.d ((eT (eT PyData.int)) scale_)), some (.d ((eL PyData.int) s4.2)), o5, o6, none, none, none] := by rw [← hu, he]; rfl
  clear hu he
  refine c_blk1 ?_
  refine c_ret ?_
  refine c_call ?_
  refine c_pcons ?_
  refine c_name rfl ?_
  refine c_pnil ?_
  refine cb_pure (r := .d (eT PyData.int s4.2)) rfl rfl ?_
  refine rt_d ?_
  exact sim_ret ⟨.inl rfl, rfl⟩
def S_law_number_row (deck_ : List Int) (kinds_ : Int) : M ((List Int) × (List Int)) :=
  S_law_draw deck_ (4 : Int) >>= fun r1 =>
  ixM [(1 : Int), (1 : Int), ((10 : Int) ^ ((9 : Int)).toNat), ((10 : Int) ^ ((36 : Int)).toNat)] r1.1 >>= fun it2 =>
  range1M kinds_ >>= fun rng3 =>
  compS (fun (a4 : Int) (s5 : (List Int)) => S_law_draw s5 (13 : Int) >>= fun r6 =>
  mulM (r6.1 - (6 : Int)) it2 >>= fun mul7 =>
  S_law_draw r6.2 (3 : Int) >>= fun r8 =>
  .ok (some ((mul7 + r8.1) - (1 : Int)), r8.2)) rng3 r1.2 >>= fun p9 =>
  .ok (p9.1, p9.2)
theorem L_law_number_row (deck_ : List Int) (kinds_ : Int) : FSim (F_law_number_row [.bor (.lst (List.map PyData.int deck_)), .d (PyData.int kinds_)]) (S_law_number_row deck_ kinds_) (fun (r : (List Int) × (List Int)) => Ret.d ((eT PyData.int) r.1)) (fun (r : (List Int) × (List Int)) => [.bor (.lst (List.map PyData.int r.2)), .d (PyData.int kinds_)]) := by
  refine fs_mk ?_
  unfold S_law_number_row
  refine sim_bnd0 ?_
  have e0 : envOf 4 [.bor (.lst (List.map PyData.int deck_)), .d (PyData.int kinds_)] = [some (.cell .bor (.lst (List.map PyData.int deck_))), some (.d (PyData.int kinds_)), none, none] := rfl
  rw [e0]
  unfold f_law_number_row
  refine c_blk ?_
  refine c_frz ?_
  refine c_set ?_
  refine c_bin ?_
  refine c_lst ?_
  refine c_cons ?_
  refine c_take ?_
  refine c_const ?_
  refine t_pure rfl ?_
  refine c_cons ?_
  refine c_take ?_
  refine c_const ?_
  refine t_pure rfl ?_
  refine c_cons ?_
  refine c_take ?_
  refine c_bin ?_
  refine c_const ?_
  refine c_const ?_
  refine b_pure rfl rfl (pow_lit (by decide +kernel)) ?_
  refine t_pure rfl ?_
  refine c_cons ?_
  refine c_take ?_
  refine c_bin ?_
  refine c_const ?_
  refine c_const ?_
  refine b_pure rfl rfl (pow_lit (by decide +kernel)) ?_
  refine t_pure rfl ?_
  refine c_nil ?_
  refine ls_pure (ys := List.map PyData.int [(1 : Int), (1 : Int), ((10 : Int) ^ ((9 : Int)).toNat), ((10 : Int) ^ ((36 : Int)).toNat)]) rfl rfl ?_
  refine c_callF ?_
  refine c_aref rfl ?_
  refine c_adat ?_
  refine c_take ?_
  refine c_const ?_
  refine t_pure rfl ?_
  refine c_anil ?_
  refine cf_s (e2 := fun r1 => [some (.cell .bor (.lst (List.map PyData.int r1.2))), some (.d (PyData.int kinds_)), none, none]) (L_law_draw deck_ (4 : Int)) (show List.Nodup ([0] : List Nat) by decide) rfl rfl (fun _ => rfl) (fun _ => trivial) ?_
  intro r1
  refine b_part (u := (eL PyData.int) [(1 : Int), (1 : Int), ((10 : Int) ^ ((9 : Int)).toNat), ((10 : Int) ^ ((36 : Int)).toNat)]) rfl rfl (ixS (e := PyData.int) (xs := [(1 : Int), (1 : Int), ((10 : Int) ^ ((9 : Int)).toNat), ((10 : Int) ^ ((36 : Int)).toNat)]) rfl) ?_
  intro it2
  refine as_d (e' := [some (.cell .bor (.lst (List.map PyData.int r1.2))), some (.d (PyData.int kinds_)), some (.d (PyData.int it2)), none]) rfl okO_none rfl ?_
  refine fz_t (v := PyData.int it2) (e' := [some (.cell .bor (.lst (List.map PyData.int r1.2))), some (.d (PyData.int kinds_)), some (.d (PyData.int it2)), none]) rfl ?_
  refine c_blk1 ?_
  refine c_ret ?_
  refine c_call ?_
  refine c_pcons ?_
  refine c_comp ?_
  refine c_rng1 ?_
  refine c_pcons ?_
  refine c_name rfl ?_
  refine c_pnil ?_
  refine r1_part rfl ?_
  intro rng3
  refine co_s (enc' := PyData.int) (fun (s5 : (List Int)) (e : SE) => e = [some (.cell .bor (.lst (List.map PyData.int s5))), some (.d (PyData.int kinds_)), some (.d (PyData.int it2)), none]) rfl (fun s5 e h => by subst h; exact (nc_cons rfl datO_none nc_nil)) ?_ ?_
  · intro a4 s5 e h
    subst h
    refine ⟨[some (.cell .bor (.lst (List.map PyData.int s5))), some (.d (PyData.int kinds_)), some (.d (PyData.int it2)), some (.d (PyData.int a4))], (bn (e' := [some (.cell .bor (.lst (List.map PyData.int s5))), some (.d (PyData.int kinds_)), some (.d (PyData.int it2)), some (.d (PyData.int a4))]) rfl okO_none rfl), ?_⟩
    refine c_turnY ?_
    refine c_take ?_
    refine c_bin ?_
    refine c_bin ?_
    refine c_bin ?_
    refine c_bin ?_
    refine c_callF ?_
    refine c_aref rfl ?_
    refine c_adat ?_
    refine c_take ?_
    refine c_const ?_
    refine t_pure rfl ?_
    refine c_anil ?_
    refine cf_s (e2 := fun r6 => [some (.cell .bor (.lst (List.map PyData.int r6.2))), some (.d (PyData.int kinds_)), some (.d (PyData.int it2)), some (.d (PyData.int a4))]) (L_law_draw s5 (13 : Int)) (show List.Nodup ([0] : List Nat) by decide) rfl rfl (fun _ => rfl) (fun _ => trivial) ?_
    intro r6
    refine c_const ?_
    refine b_pure rfl rfl rfl ?_
    refine c_name rfl ?_
    refine b_part rfl rfl mulS ?_
    intro mul7
    refine c_callF ?_
    refine c_aref rfl ?_
    refine c_adat ?_
    refine c_take ?_
    refine c_const ?_
    refine t_pure rfl ?_
    refine c_anil ?_
    refine cf_s (e2 := fun r8 => [some (.cell .bor (.lst (List.map PyData.int r8.2))), some (.d (PyData.int kinds_)), some (.d (PyData.int it2)), some (.d (PyData.int a4))]) (L_law_draw r6.2 (3 : Int)) (show List.Nodup ([0] : List Nat) by decide) rfl rfl (fun _ => rfl) (fun _ => trivial) ?_
    intro r8
    refine b_pure rfl rfl rfl ?_
    refine c_const ?_
    refine b_pure rfl rfl rfl ?_
    refine t_pure rfl ?_
    exact sim_ret ⟨rfl, rfl⟩
  intro ys1 ys2 e h e' he
  obtain rfl : e' = [some (.cell .bor (.lst (List.map PyData.int ys2))), some (.d (PyData.int kinds_)), some (.d (PyData.int it2)), none] := by rw [← he, h]; rfl
  generalize hp : (ys1, ys2) = p9
  obtain rfl : ys1 = p9.1 := by rw [← hp]
  obtain rfl : ys2 = p9.2 := by rw [← hp]
  clear hp
  refine c_pnil ?_
  refine cb_pure (r := .d (eT PyData.int p9.1)) rfl rfl ?_
  refine rt_d ?_
  exact sim_ret ⟨.inl rfl, rfl⟩
def S_law_bent_row (deck_ : List Int) (row_ : List Int) : M ((List Int) × (List Int)) :=
  S_law_draw deck_ ((row_).length : Int) >>= fun r1 =>
  ixM row_ r1.1 >>= fun it2 =>
  S_law_draw r1.2 (2 : Int) >>= fun r3 =>
  ixM [(1 : Int), (-1 : Int)] r3.1 >>= fun it4 =>
  lenG ((cutD row_ none (some r1.1)) ++ [(it2 + it4)]) >>= fun cat5 =>
  lenG (cat5 ++ (cutD row_ (some (r1.1 + (1 : Int))) none)) >>= fun cat6 =>
  .ok (cat6, r3.2)
theorem L_law_bent_row (deck_ : List Int) (row_ : List Int) : FSim (F_law_bent_row [.bor (.lst (List.map PyData.int deck_)), .d ((eT PyData.int) row_)]) (S_law_bent_row deck_ row_) (fun (r : (List Int) × (List Int)) => Ret.d ((eT PyData.int) r.1)) (fun (r : (List Int) × (List Int)) => [.bor (.lst (List.map PyData.int r.2)), .d ((eT PyData.int) row_)]) := by
  refine fs_mk ?_
  unfold S_law_bent_row
  refine sim_bnd0 ?_
  have e0 : envOf 3 [.bor (.lst (List.map PyData.int deck_)), .d ((eT PyData.int) row_)] = [some (.cell .bor (.lst (List.map PyData.int deck_))), some (.d ((eT PyData.int) row_)), none] := rfl
  rw [e0]
  unfold f_law_bent_row
  refine c_blk ?_
  refine c_frz ?_
  refine c_set ?_
  refine c_callF ?_
  refine c_aref rfl ?_
  refine c_adat ?_
  refine c_take ?_
  refine c_call ?_
  refine c_pcons ?_
  refine c_name rfl ?_
  refine c_pnil ?_
  refine cb_pure (xs := [(eT PyData.int) row_]) rfl lenT ?_
  refine t_pure rfl ?_
  refine c_anil ?_
  refine cf_s (e2 := fun r1 => [some (.cell .bor (.lst (List.map PyData.int r1.2))), some (.d ((eT PyData.int) row_)), none]) (L_law_draw deck_ ((row_).length : Int)) (show List.Nodup ([0] : List Nat) by decide) rfl rfl (fun _ => rfl) (fun _ => trivial) ?_
  intro r1
  refine as_d (e' := [some (.cell .bor (.lst (List.map PyData.int r1.2))), some (.d ((eT PyData.int) row_)), some (.d (PyData.int r1.1))]) rfl okO_none rfl ?_
  refine fz_t (v := PyData.int r1.1) (e' := [some (.cell .bor (.lst (List.map PyData.int r1.2))), some (.d ((eT PyData.int) row_)), some (.d (PyData.int r1.1))]) rfl ?_
  refine c_blk1 ?_
  refine c_ret ?_
  refine c_bin ?_
  refine c_bin ?_
  refine c_sl ?_
  refine c_name rfl ?_
  refine c_nopart ?_
  refine c_part ?_
  refine c_name rfl ?_
  refine pt_pure rfl ?_
  refine sl_pure (v := (eT PyData.int) row_) rfl slT ?_
  refine c_tup ?_
  refine c_cons ?_
  refine c_take ?_
  refine c_bin ?_
  refine c_bin ?_
  refine c_name rfl ?_
  refine c_name rfl ?_
  refine b_part (u := (eT PyData.int) row_) rfl rfl (ixS (e := PyData.int) (xs := row_) rfl) ?_
  intro it2
  refine c_bin ?_
  refine c_lst ?_
  refine c_cons ?_
  refine c_take ?_
  refine c_const ?_
  refine t_pure rfl ?_
  refine c_cons ?_
  refine c_take ?_
  refine c_neg ?_
  refine c_const ?_
  refine n_pure rfl ?_
  refine t_pure rfl ?_
  refine c_nil ?_
  refine ls_pure (ys := List.map PyData.int [(1 : Int), (-1 : Int)]) rfl rfl ?_
  refine c_callF ?_
  refine c_aref rfl ?_
  refine c_adat ?_
  refine c_take ?_
  refine c_const ?_
  refine t_pure rfl ?_
  refine c_anil ?_
  refine cf_s (e2 := fun r3 => [some (.cell .bor (.lst (List.map PyData.int r3.2))), some (.d ((eT PyData.int) row_)), some (.d (PyData.int r1.1))]) (L_law_draw r1.2 (2 : Int)) (show List.Nodup ([0] : List Nat) by decide) rfl rfl (fun _ => rfl) (fun _ => trivial) ?_
  intro r3
  refine b_part (u := (eL PyData.int) [(1 : Int), (-1 : Int)]) rfl rfl (ixS (e := PyData.int) (xs := [(1 : Int), (-1 : Int)]) rfl) ?_
  intro it4
  refine b_pure rfl rfl rfl ?_
  refine t_pure rfl ?_
  refine c_nil ?_
  refine tu_pure (v := (eT PyData.int) [(it2 + it4)]) rfl rfl ?_
  refine b_part (u := (eT PyData.int) (cutD row_ none (some r1.1))) (v := (eT PyData.int) [(it2 + it4)]) rfl rfl (catT (e := PyData.int)) ?_
  intro cat5
  refine c_sl ?_
  refine c_name rfl ?_
  refine c_part ?_
  refine c_bin ?_
  refine c_name rfl ?_
  refine c_const ?_
  refine b_pure rfl rfl rfl ?_
  refine pt_pure rfl ?_
  refine c_nopart ?_
  refine sl_pure (v := (eT PyData.int) row_) rfl slT ?_
  refine b_part (u := (eT PyData.int) cat5) (v := (eT PyData.int) (cutD row_ (some (r1.1 + (1 : Int))) none)) rfl rfl (catT (e := PyData.int)) ?_
  intro cat6
  refine rt_d ?_
  exact sim_ret ⟨.inl rfl, rfl⟩
def S_law_keeps (book_ : List ((List Int) × (List Int))) (row_ : List Int) : M (Bool) :=
  compP (fun (a1 : (List Int) × (List Int)) => S_law_dot row_ a1.1 >>= fun r2 =>
  S_law_dot row_ a1.2 >>= fun r3 =>
  if (!eqD r2 r3) = true then (.ok (some (1 : Int))) else (.ok none)) book_ >>= fun xs4 =>
  .ok (eqD xs4 ([] : List Int))
theorem L_law_keeps (book_ : List ((List Int) × (List Int))) (row_ : List Int) : FSim (F_law_keeps [.d ((eT (eP (eT PyData.int) (eT PyData.int))) book_), .d ((eT PyData.int) row_)]) (S_law_keeps book_ row_) (fun (r : Bool) => Ret.d (PyData.bool r)) (fun (r : Bool) => [.d ((eT (eP (eT PyData.int) (eT PyData.int))) book_), .d ((eT PyData.int) row_)]) := by
  refine fs_mk ?_
  unfold S_law_keeps
  refine sim_bnd0 ?_
  have e0 : envOf 4 [.d ((eT (eP (eT PyData.int) (eT PyData.int))) book_), .d ((eT PyData.int) row_)] = [some (.d ((eT (eP (eT PyData.int) (eT PyData.int))) book_)), some (.d ((eT PyData.int) row_)), none, none] := rfl
  rw [e0]
  unfold f_law_keeps
  refine c_blk ?_
  refine c_ret ?_
  refine c_bin ?_
  refine c_comp ?_
  refine c_seq ?_
  refine c_name rfl ?_
  refine sq_T (ds := List.map (eP (eT PyData.int) (eT PyData.int)) book_) rfl ?_
  refine co_p (enc' := PyData.int) (el := [some (.d ((eT (eP (eT PyData.int) (eT PyData.int))) book_)), some (.d ((eT PyData.int) row_)), none, none]) rfl (nc_cons rfl datO_none (nc_cons rfl datO_none nc_nil)) rfl ?_ ?_
  · intro a1
    refine ⟨[some (.d ((eT (eP (eT PyData.int) (eT PyData.int))) book_)), some (.d ((eT PyData.int) row_)), some (.d ((eT PyData.int) a1.1)), some (.d ((eT PyData.int) a1.2))], (bt_tup rfl (bt_cons (bn (e' := [some (.d ((eT (eP (eT PyData.int) (eT PyData.int))) book_)), some (.d ((eT PyData.int) row_)), some (.d ((eT PyData.int) a1.1)), none]) rfl okO_none rfl) (bt_cons (bn (e' := [some (.d ((eT (eP (eT PyData.int) (eT PyData.int))) book_)), some (.d ((eT PyData.int) row_)), some (.d ((eT PyData.int) a1.1)), some (.d ((eT PyData.int) a1.2))]) rfl okO_none rfl) bt_nil))), ?_⟩
    refine c_turn ?_
    refine c_tru ?_
    refine c_bin ?_
    refine c_callF ?_
    refine c_adat ?_
    refine c_take ?_
    refine c_name rfl ?_
    refine t_pure rfl ?_
    refine c_adat ?_
    refine c_take ?_
    refine c_name rfl ?_
    refine t_pure rfl ?_
    refine c_anil ?_
    refine cf_s (e2 := fun r2 => [some (.d ((eT (eP (eT PyData.int) (eT PyData.int))) book_)), some (.d ((eT PyData.int) row_)), some (.d ((eT PyData.int) a1.1)), some (.d ((eT PyData.int) a1.2))]) (L_law_dot row_ a1.1) (show List.Nodup ([] : List Nat) by decide) rfl rfl (fun _ => rfl) (fun _ => trivial) ?_
    intro r2
    refine c_callF ?_
    refine c_adat ?_
    refine c_take ?_
    refine c_name rfl ?_
    refine t_pure rfl ?_
    refine c_adat ?_
    refine c_take ?_
    refine c_name rfl ?_
    refine t_pure rfl ?_
    refine c_anil ?_
    refine cf_s (e2 := fun r3 => [some (.d ((eT (eP (eT PyData.int) (eT PyData.int))) book_)), some (.d ((eT PyData.int) row_)), some (.d ((eT PyData.int) a1.1)), some (.d ((eT PyData.int) a1.2))]) (L_law_dot row_ a1.2) (show List.Nodup ([] : List Nat) by decide) rfl rfl (fun _ => rfl) (fun _ => trivial) ?_
    intro r3
    refine b_pure (u := PyData.int r2) (v := PyData.int r3) rfl rfl (ne_t EqT.I (by decide)) ?_
    refine tr_pure rfl rfl ?_
    refine ite_s (fun _ => ?_) (fun _ => ?_)
    · refine c_take ?_
      refine c_const ?_
      refine t_pure rfl ?_
      exact sim_ret ⟨rfl, rfl⟩
    · exact sim_ret ⟨rfl, rfl⟩
  intro xs4
  refine c_lst ?_
  refine c_nil ?_
  refine ls_pure (ys := List.map PyData.int ([] : List Int)) rfl rfl ?_
  refine b_pure (u := (eL PyData.int) xs4) (v := (eL PyData.int) ([] : List Int)) rfl rfl (eq_t (EqT.L EqT.I) (by decide)) ?_
  refine rt_d ?_
  exact sim_ret ⟨.inl rfl, rfl⟩
def S_law (script_ : List Int) : M (Bool) :=
  S_law_deck script_ >>= fun r1 =>
  forL (ρ := Bool) (fun (a9 : Int) (s2 : (List Int)) =>
  S_law_scale s2 >>= fun r10 =>
  S_law_draw r10.2 (6 : Int) >>= fun r11 =>
  S_law_book r11.2 r10.1 r11.1 >>= fun r12 =>
  S_law_sum_row r12.2 r10.1 >>= fun r13 =>
  ixM r10.1 (0 : Int) >>= fun it14 =>
  S_law_number_row r13.2 ((it14).length : Int) >>= fun r15 =>
  ixM r10.1 (0 : Int) >>= fun it16 =>
  lenG (List.map (fun (a17 : Int) => (0 : Int)) it16) >>= fun xs18 =>
  ixM [r13.1, r15.1, xs18] (0 : Int) >>= fun it19 =>
  S_law_bent_row r15.2 it19 >>= fun r20 =>
  ixM [r13.1, r15.1, xs18] (2 : Int) >>= fun it21 =>
  S_law_bent_row r20.2 it21 >>= fun r22 =>
  S_law_draw r22.2 ((r10.1).length : Int) >>= fun r23 =>
  ixM r10.1 r23.1 >>= fun it24 =>
  lenG ([r13.1, r15.1, xs18] ++ [r20.1, r22.1, it24]) >>= fun cat25 =>
  forL (ρ := Bool) (fun (a29 : List Int) (s26 : Unit) =>
  reprM ((eP (eT (eP (eT PyData.int) (eT PyData.int))) (eT PyData.int)) (r12.1, a29)) >>= fun txt30 =>
  S_is_kept r12.1 a29 >>= fun r31 =>
  reprM (PyData.bool r31) >>= fun txt32 =>
  S_law_keeps r12.1 a29 >>= fun r33 =>
  reprM (PyData.bool r33) >>= fun txt34 =>
  eqSM txt32 txt34 >>= fun same35 =>
  (if (!same35) = true then .ok true else (reprM ((eP (eT (eP (eT PyData.int) (eT PyData.int))) (eT PyData.int)) (r12.1, a29)) >>= fun txt36 =>
  eqSM txt36 txt30 >>= fun same37 =>
  .ok (!same37))) >>= fun b38 =>
  if b38 = true then (.ok (.rt false))
  else
  S_is_kept ([] : List ((List Int) × (List Int))) a29 >>= fun r39 =>
  reprM (PyData.bool r39) >>= fun txt40 =>
  eqSM txt40 (Str.ofString "True") >>= fun same41 =>
  (if (!same41) = true then .ok true else (S_is_kept r12.1 a29 >>= fun r42 =>
  reprM (PyData.bool r42) >>= fun txt43 =>
  S_law_keeps r12.1 a29 >>= fun r44 =>
  reprM (PyData.bool r44) >>= fun txt45 =>
  eqSM txt43 txt45 >>= fun same46 =>
  .ok (!same46))) >>= fun b47 =>
  if b47 = true then (.ok (.rt false))
  else
  .ok (.nx ())) cat25 () >>= fun l48 => match l48 with
  | .rt r => .ok (.rt r)
  | .bk _ => .fail
  | .nx s26 =>
  .ok (.nx r23.2)) (rangeZ 0 ((8 : Int)).toNat) r1 >>= fun l49 => match l49 with
  | .rt r => .ok r
  | .bk _ => .fail
  | .nx s2 =>
  .ok true
theorem L_law (script_ : List Int) : FSim (F_law [.d ((eL PyData.int) script_)]) (S_law script_) (fun (r : Bool) => Ret.d (PyData.bool r)) (fun (r : Bool) => [.d ((eL PyData.int) script_)]) := by
  refine fs_mk ?_
  unfold S_law
  refine sim_bnd0 ?_
  have e0 : envOf 9 [.d ((eL PyData.int) script_)] = [some (.d ((eL PyData.int) script_)), none, none, none, none, none, none, none, none] := rfl
  rw [e0]
  unfold f_law
  refine c_blk ?_
  refine c_set ?_
  refine c_callF ?_
  refine c_adat ?_
  refine c_take ?_
  refine c_name rfl ?_
  refine t_pure rfl ?_
  refine c_anil ?_
  refine cf_s (e2 := fun r1 => [some (.d ((eL PyData.int) script_)), none, none, none, none, none, none, none, none]) (L_law_deck script_) (show List.Nodup ([] : List Nat) by decide) rfl rfl (fun _ => rfl) (fun _ => trivial) ?_
  intro r1
  refine as_t (e' := [some (.d ((eL PyData.int) script_)), some (.cell .own (.lst (List.map PyData.int r1))), none, none, none, none, none, none, none]) rfl okO_none rfl ?_
  refine c_blk1 ?_
  refine c_for ?_
  refine c_rng1 ?_
  refine c_pcons ?_
  refine c_const ?_
  refine c_pnil ?_
  refine r1_lit rfl (by decide) ?_
  refine fo_l (fun (s2 : (List Int)) (e : SE) => ∃ (o3 : Option MV), ∃ (o4 : Option MV), ∃ (o5 : Option MV), ∃ (o6 : Option MV), ∃ (o7 : Option MV), ∃ (o8 : Option MV), datO o3 ∧ datO o4 ∧ datO o5 ∧ datO o6 ∧ datO o7 ∧ datO o8 ∧ e = [some (.d ((eL PyData.int) script_)), some (.cell .own (.lst (List.map PyData.int s2))), o3, o4, o5, o6, o7, o8, none]) (fun (r : Bool) (v : Ret) (e : SE) => v = Ret.d (PyData.bool r) ∧ outsOf [.d ((eL PyData.int) script_)] e = [.d ((eL PyData.int) script_)]) ⟨_, _, _, _, _, _, datO_none, datO_none, datO_none, datO_none, datO_none, datO_none, rfl⟩ (fun _ _ => trivial) ?_ ?_ ?_
  · intro a9 s2 e hK
    obtain ⟨o3, o4, o5, o6, o7, o8, ho3, ho4, ho5, ho6, ho7, ho8, he⟩ := hK
    subst he
    refine ⟨[some (.d ((eL PyData.int) script_)), some (.cell .own (.lst (List.map PyData.int s2))), some (.d (PyData.int a9)), o4, o5, o6, o7, o8, none], (bn (e' := [some (.d ((eL PyData.int) script_)), some (.cell .own (.lst (List.map PyData.int s2))), some (.d (PyData.int a9)), o4, o5, o6, o7, o8, none]) rfl (datO.ok ho3) rfl), ?_⟩
    refine sim_bnd0 ?_
    refine c_blk ?_
    refine c_frz ?_
    refine c_set ?_
    refine c_callF ?_
    refine c_aref rfl ?_
    refine c_anil ?_
    refine cf_s (e2 := fun r10 => [some (.d ((eL PyData.int) script_)), some (.cell .own (.lst (List.map PyData.int r10.2))), some (.d (PyData.int a9)), o4, o5, o6, o7, o8, none]) (L_law_scale s2) (show List.Nodup ([1] : List Nat) by decide) rfl rfl (fun _ => rfl) (fun _ => trivial) ?_
    intro r10
    refine as_d (e' := [some (.d ((eL PyData.int) script_)), some (.cell .own (.lst (List.map PyData.int r10.2))), some (.d (PyData.int a9)), some (.d ((eT (eT PyData.int)) r10.1)), o5, o6, o7, o8, none]) rfl (datO.ok ho4) rfl ?_
    refine fz_t (v := (eT (eT PyData.int)) r10.1) (e' := [some (.d ((eL PyData.int) script_)), some (.cell .own (.lst (List.map PyData.int r10.2))), some (.d (PyData.int a9)), some (.d ((eT (eT PyData.int)) r10.1)), o5, o6, o7, o8, none]) rfl ?_
    refine c_blk1 ?_
    refine c_frz ?_
    refine c_set ?_
    refine c_callF ?_
    refine c_aref rfl ?_
    refine c_adat ?_
    refine c_take ?_
    refine c_name rfl ?_
    refine t_pure rfl ?_
    refine c_adat ?_
    refine c_take ?_
    refine c_callF ?_
    refine c_aref rfl ?_
    refine c_adat ?_
    refine c_take ?_
    refine c_const ?_
    refine t_pure rfl ?_
    refine c_anil ?_
    refine cf_s (e2 := fun r11 => [some (.d ((eL PyData.int) script_)), some (.cell .own (.lst (List.map PyData.int r11.2))), some (.d (PyData.int a9)), some (.d ((eT (eT PyData.int)) r10.1)), o5, o6, o7, o8, none]) (L_law_draw r10.2 (6 : Int)) (show List.Nodup ([1] : List Nat) by decide) rfl rfl (fun _ => rfl) (fun _ => trivial) ?_
    intro r11
    refine t_pure rfl ?_
    refine c_anil ?_
    refine cf_s (e2 := fun r12 => [some (.d ((eL PyData.int) script_)), some (.cell .own (.lst (List.map PyData.int r12.2))), some (.d (PyData.int a9)), some (.d ((eT (eT PyData.int)) r10.1)), o5, o6, o7, o8, none]) (L_law_book r11.2 r10.1 r11.1) (show List.Nodup ([1] : List Nat) by decide) rfl rfl (fun _ => rfl) (fun _ => trivial) ?_
    intro r12
    refine as_d (e' := [some (.d ((eL PyData.int) script_)), some (.cell .own (.lst (List.map PyData.int r12.2))), some (.d (PyData.int a9)), some (.d ((eT (eT PyData.int)) r10.1)), some (.d ((eT (eP (eT PyData.int) (eT PyData.int))) r12.1)), o6, o7, o8, none]) rfl (datO.ok ho5) rfl ?_
    refine fz_t (v := (eT (eP (eT PyData.int) (eT PyData.int))) r12.1) (e' := [some (.d ((eL PyData.int) script_)), some (.cell .own (.lst (List.map PyData.int r12.2))), some (.d (PyData.int a9)), some (.d ((eT (eT PyData.int)) r10.1)), some (.d ((eT (eP (eT PyData.int) (eT PyData.int))) r12.1)), o6, o7, o8, none]) rfl ?_
    refine c_blk1 ?_
    refine c_frz ?_
    refine c_set ?_
    refine c_lst ?_
    refine c_cons ?_
    refine c_take ?_
    refine c_callF ?_
    refine c_aref rfl ?_
    refine c_adat ?_
    refine c_take ?_
    refine c_name rfl ?_
    refine t_pure rfl ?_
    refine c_anil ?_
    refine cf_s (e2 := fun r13 => [some (.d ((eL PyData.int) script_)), some (.cell .own (.lst (List.map PyData.int r13.2))), some (.d (PyData.int a9)), some (.d ((eT (eT PyData.int)) r10.1)), some (.d ((eT (eP (eT PyData.int) (eT PyData.int))) r12.1)), o6, o7, o8, none]) (L_law_sum_row r12.2 r10.1) (show List.Nodup ([1] : List Nat) by decide) rfl rfl (fun _ => rfl) (fun _ => trivial) ?_
    intro r13
    refine t_pure rfl ?_
    refine c_cons ?_
    refine c_take ?_
    refine c_callF ?_
    refine c_aref rfl ?_
    refine c_adat ?_
    refine c_take ?_
    refine c_call ?_
    refine c_pcons ?_
    refine c_bin ?_
    refine c_name rfl ?_
    refine c_const ?_
    refine b_part (u := (eT (eT PyData.int)) r10.1) rfl rfl (ixS (e := (eT PyData.int)) (xs := r10.1) rfl) ?_
    intro it14
    refine c_pnil ?_
    refine cb_pure (xs := [(eT PyData.int) it14]) rfl lenT ?_
    refine t_pure rfl ?_
    refine c_anil ?_
    refine cf_s (e2 := fun r15 => [some (.d ((eL PyData.int) script_)), some (.cell .own (.lst (List.map PyData.int r15.2))), some (.d (PyData.int a9)), some (.d ((eT (eT PyData.int)) r10.1)), some (.d ((eT (eP (eT PyData.int) (eT PyData.int))) r12.1)), o6, o7, o8, none]) (L_law_number_row r13.2 ((it14).length : Int)) (show List.Nodup ([1] : List Nat) by decide) rfl rfl (fun _ => rfl) (fun _ => trivial) ?_
    intro r15
    refine t_pure rfl ?_
    refine c_cons ?_
    refine c_take ?_
    refine c_call ?_
    refine c_pcons ?_
    refine c_comp ?_
    refine c_seq ?_
    refine c_bin ?_
    refine c_name rfl ?_
    refine c_const ?_
    refine b_part (u := (eT (eT PyData.int)) r10.1) rfl rfl (ixS (e := (eT PyData.int)) (xs := r10.1) rfl) ?_
    intro it16
    refine sq_T (ds := List.map PyData.int it16) rfl ?_
    refine co_m (enc' := PyData.int) (el := [some (.d ((eL PyData.int) script_)), some (.cell .own (.lst (List.map PyData.int r15.2))), some (.d (PyData.int a9)), some (.d ((eT (eT PyData.int)) r10.1)), some (.d ((eT (eP (eT PyData.int) (eT PyData.int))) r12.1)), o6, o7, o8, none]) rfl (nc_cons rfl datO_none nc_nil) rfl ?_ ?_
    · intro a17
      refine ⟨[some (.d ((eL PyData.int) script_)), some (.cell .own (.lst (List.map PyData.int r15.2))), some (.d (PyData.int a9)), some (.d ((eT (eT PyData.int)) r10.1)), some (.d ((eT (eP (eT PyData.int) (eT PyData.int))) r12.1)), o6, o7, o8, some (.d (PyData.int a17))], (bn (e' := [some (.d ((eL PyData.int) script_)), some (.cell .own (.lst (List.map PyData.int r15.2))), some (.d (PyData.int a9)), some (.d ((eT (eT PyData.int)) r10.1)), some (.d ((eT (eP (eT PyData.int) (eT PyData.int))) r12.1)), o6, o7, o8, some (.d (PyData.int a17))]) rfl okO_none rfl), ?_⟩
      refine c_turnY ?_
      refine c_take ?_
      refine c_const ?_
      refine t_pure rfl ?_
      exact sim_ret ⟨rfl, rfl⟩
    intro xs18
    refine c_pnil ?_
    refine cb_pure (r := .d (eT PyData.int xs18)) rfl rfl ?_
    refine t_pure rfl ?_
    refine c_nil ?_
    refine ls_pure (ys := List.map (eT PyData.int) [r13.1, r15.1, xs18]) rfl rfl ?_
    refine as_t (e' := [some (.d ((eL PyData.int) script_)), some (.cell .own (.lst (List.map PyData.int r15.2))), some (.d (PyData.int a9)), some (.d ((eT (eT PyData.int)) r10.1)), some (.d ((eT (eP (eT PyData.int) (eT PyData.int))) r12.1)), some (.cell .own (.lst (List.map (eT PyData.int) [r13.1, r15.1, xs18]))), o7, o8, none]) rfl (datO.ok ho6) rfl ?_
    refine fz_t (v := (eL (eT PyData.int)) [r13.1, r15.1, xs18]) (e' := [some (.d ((eL PyData.int) script_)), some (.cell .own (.lst (List.map PyData.int r15.2))), some (.d (PyData.int a9)), some (.d ((eT (eT PyData.int)) r10.1)), some (.d ((eT (eP (eT PyData.int) (eT PyData.int))) r12.1)), some (.d ((eL (eT PyData.int)) [r13.1, r15.1, xs18])), o7, o8, none]) rfl ?_
    refine c_blk1 ?_
    refine c_frz ?_
    refine c_set ?_
    refine c_bin ?_
    refine c_name rfl ?_
    refine c_lst ?_
    refine c_cons ?_
    refine c_take ?_
    refine c_callF ?_
    refine c_aref rfl ?_
    refine c_adat ?_
    refine c_take ?_
    refine c_bin ?_
    refine c_name rfl ?_
    refine c_const ?_
    refine b_part (u := (eL (eT PyData.int)) [r13.1, r15.1, xs18]) rfl rfl (ixS (e := (eT PyData.int)) (xs := [r13.1, r15.1, xs18]) rfl) ?_
    intro it19
    refine t_pure rfl ?_
    refine c_anil ?_
    refine cf_s (e2 := fun r20 => [some (.d ((eL PyData.int) script_)), some (.cell .own (.lst (List.map PyData.int r20.2))), some (.d (PyData.int a9)), some (.d ((eT (eT PyData.int)) r10.1)), some (.d ((eT (eP (eT PyData.int) (eT PyData.int))) r12.1)), some (.d ((eL (eT PyData.int)) [r13.1, r15.1, xs18])), o7, o8, none]) (L_law_bent_row r15.2 it19) (show List.Nodup ([1] : List Nat) by decide) rfl rfl (fun _ => rfl) (fun _ => trivial) ?_
    intro r20
    refine t_pure rfl ?_
    refine c_cons ?_
    refine c_take ?_
    refine c_callF ?_
    refine c_aref rfl ?_
    refine c_adat ?_
    refine c_take ?_
    refine c_bin ?_
    refine c_name rfl ?_
    refine c_const ?_
    refine b_part (u := (eL (eT PyData.int)) [r13.1, r15.1, xs18]) rfl rfl (ixS (e := (eT PyData.int)) (xs := [r13.1, r15.1, xs18]) rfl) ?_
    intro it21
    refine t_pure rfl ?_
    refine c_anil ?_
    refine cf_s (e2 := fun r22 => [some (.d ((eL PyData.int) script_)), some (.cell .own (.lst (List.map PyData.int r22.2))), some (.d (PyData.int a9)), some (.d ((eT (eT PyData.int)) r10.1)), some (.d ((eT (eP (eT PyData.int) (eT PyData.int))) r12.1)), some (.d ((eL (eT PyData.int)) [r13.1, r15.1, xs18])), o7, o8, none]) (L_law_bent_row r20.2 it21) (show List.Nodup ([1] : List Nat) by decide) rfl rfl (fun _ => rfl) (fun _ => trivial) ?_
    intro r22
    refine t_pure rfl ?_
    refine c_cons ?_
    refine c_take ?_
    refine c_bin ?_
    refine c_name rfl ?_
    refine c_callF ?_
    refine c_aref rfl ?_
    refine c_adat ?_
    refine c_take ?_
    refine c_call ?_
    refine c_pcons ?_
    refine c_name rfl ?_
    refine c_pnil ?_
    refine cb_pure (xs := [(eT (eT PyData.int)) r10.1]) rfl lenT ?_
    refine t_pure rfl ?_
    refine c_anil ?_
    refine cf_s (e2 := fun r23 => [some (.d ((eL PyData.int) script_)), some (.cell .own (.lst (List.map PyData.int r23.2))), some (.d (PyData.int a9)), some (.d ((eT (eT PyData.int)) r10.1)), some (.d ((eT (eP (eT PyData.int) (eT PyData.int))) r12.1)), some (.d ((eL (eT PyData.int)) [r13.1, r15.1, xs18])), o7, o8, none]) (L_law_draw r22.2 ((r10.1).length : Int)) (show List.Nodup ([1] : List Nat) by decide) rfl rfl (fun _ => rfl) (fun _ => trivial) ?_
    intro r23
    refine b_part (u := (eT (eT PyData.int)) r10.1) rfl rfl (ixS (e := (eT PyData.int)) (xs := r10.1) rfl) ?_
    intro it24
    refine t_pure rfl ?_
    refine c_nil ?_
    refine ls_pure (ys := List.map (eT PyData.int) [r20.1, r22.1, it24]) rfl rfl ?_
    refine b_part (u := (eL (eT PyData.int)) [r13.1, r15.1, xs18]) (v := (eL (eT PyData.int)) [r20.1, r22.1, it24]) rfl rfl (catL (e := (eT PyData.int))) ?_
    intro cat25
    refine as_t (e' := [some (.d ((eL PyData.int) script_)), some (.cell .own (.lst (List.map PyData.int r23.2))), some (.d (PyData.int a9)), some (.d ((eT (eT PyData.int)) r10.1)), some (.d ((eT (eP (eT PyData.int) (eT PyData.int))) r12.1)), some (.cell .own (.lst (List.map (eT PyData.int) cat25))), o7, o8, none]) rfl okO_d rfl ?_
    refine fz_t (v := (eL (eT PyData.int)) cat25) (e' := [some (.d ((eL PyData.int) script_)), some (.cell .own (.lst (List.map PyData.int r23.2))), some (.d (PyData.int a9)), some (.d ((eT (eT PyData.int)) r10.1)), some (.d ((eT (eP (eT PyData.int) (eT PyData.int))) r12.1)), some (.d ((eL (eT PyData.int)) cat25)), o7, o8, none]) rfl ?_
    refine c_blk1 ?_
    refine c_for ?_
    refine c_seq ?_
    refine c_name rfl ?_
    refine sq_L (ds := List.map (eT PyData.int) cat25) (lk := []) rfl rfl ?_
    refine fo_l (fun (s26 : Unit) (e : SE) => ∃ (o27 : Option MV), ∃ (o28 : Option MV), datO o27 ∧ datO o28 ∧ e = [some (.d ((eL PyData.int) script_)), some (.cell .own (.lst (List.map PyData.int r23.2))), some (.d (PyData.int a9)), some (.d ((eT (eT PyData.int)) r10.1)), some (.d ((eT (eP (eT PyData.int) (eT PyData.int))) r12.1)), some (.d ((eL (eT PyData.int)) cat25)), o27, o28, none]) (fun (r : Bool) (v : Ret) (e : SE) => v = Ret.d (PyData.bool r) ∧ outsOf [.d ((eL PyData.int) script_)] e = [.d ((eL PyData.int) script_)]) ⟨_, _, ho7, ho8, rfl⟩ (fun _ _ => trivial) ?_ ?_ ?_
    · intro a29 s26 e hK
      obtain ⟨o27, o28, ho27, ho28, he⟩ := hK
      subst he
      refine ⟨[some (.d ((eL PyData.int) script_)), some (.cell .own (.lst (List.map PyData.int r23.2))), some (.d (PyData.int a9)), some (.d ((eT (eT PyData.int)) r10.1)), some (.d ((eT (eP (eT PyData.int) (eT PyData.int))) r12.1)), some (.d ((eL (eT PyData.int)) cat25)), some (.d ((eT PyData.int) a29)), o28, none], (bn (e' := [some (.d ((eL PyData.int) script_)), some (.cell .own (.lst (List.map PyData.int r23.2))), some (.d (PyData.int a9)), some (.d ((eT (eT PyData.int)) r10.1)), some (.d ((eT (eP (eT PyData.int) (eT PyData.int))) r12.1)), some (.d ((eL (eT PyData.int)) cat25)), some (.d ((eT PyData.int) a29)), o28, none]) rfl (datO.ok ho27) rfl), ?_⟩
      refine sim_bnd0 ?_
      refine c_blk ?_
      refine c_set ?_
      refine c_call ?_
      refine c_pcons ?_
      refine c_tup ?_
      refine c_cons ?_
      refine c_take ?_
      refine c_name rfl ?_
      refine t_pure rfl ?_
      refine c_cons ?_
      refine c_take ?_
      refine c_name rfl ?_
      refine t_pure rfl ?_
      refine c_nil ?_
      refine tu_pure (v := (eP (eT (eP (eT PyData.int) (eT PyData.int))) (eT PyData.int)) (r12.1, a29)) rfl rfl ?_
      refine c_pnil ?_
      refine cb_part (xs := [(eP (eT (eP (eT PyData.int) (eT PyData.int))) (eT PyData.int)) (r12.1, a29)]) rfl reprS ?_
      intro txt30
      refine as_d (e' := [some (.d ((eL PyData.int) script_)), some (.cell .own (.lst (List.map PyData.int r23.2))), some (.d (PyData.int a9)), some (.d ((eT (eT PyData.int)) r10.1)), some (.d ((eT (eP (eT PyData.int) (eT PyData.int))) r12.1)), some (.d ((eL (eT PyData.int)) cat25)), some (.d ((eT PyData.int) a29)), some (.d (PyData.str txt30)), none]) rfl (datO.ok ho28) rfl ?_
      refine c_blk1 ?_
      refine c_ifS ?_
      refine c_or ?_
      refine c_tru ?_
      refine c_bin ?_
      refine c_call ?_
      refine c_pcons ?_
      refine c_callF ?_
      refine c_adat ?_
      refine c_take ?_
      refine c_name rfl ?_
      refine t_pure rfl ?_
      refine c_adat ?_
      refine c_take ?_
      refine c_name rfl ?_
      refine t_pure rfl ?_
      refine c_anil ?_
      refine cf_s (e2 := fun r31 => [some (.d ((eL PyData.int) script_)), some (.cell .own (.lst (List.map PyData.int r23.2))), some (.d (PyData.int a9)), some (.d ((eT (eT PyData.int)) r10.1)), some (.d ((eT (eP (eT PyData.int) (eT PyData.int))) r12.1)), some (.d ((eL (eT PyData.int)) cat25)), some (.d ((eT PyData.int) a29)), some (.d (PyData.str txt30)), none]) (L_is_kept r12.1 a29) (show List.Nodup ([] : List Nat) by decide) rfl rfl (fun _ => rfl) (fun _ => trivial) ?_
      intro r31
      refine c_pnil ?_
      refine cb_part (xs := [PyData.bool r31]) rfl reprS ?_
      intro txt32
      refine c_call ?_
      refine c_pcons ?_
      refine c_callF ?_
      refine c_adat ?_
      refine c_take ?_
      refine c_name rfl ?_
      refine t_pure rfl ?_
      refine c_adat ?_
      refine c_take ?_
      refine c_name rfl ?_
      refine t_pure rfl ?_
      refine c_anil ?_
      refine cf_s (e2 := fun r33 => [some (.d ((eL PyData.int) script_)), some (.cell .own (.lst (List.map PyData.int r23.2))), some (.d (PyData.int a9)), some (.d ((eT (eT PyData.int)) r10.1)), some (.d ((eT (eP (eT PyData.int) (eT PyData.int))) r12.1)), some (.d ((eL (eT PyData.int)) cat25)), some (.d ((eT PyData.int) a29)), some (.d (PyData.str txt30)), none]) (L_law_keeps r12.1 a29) (show List.Nodup ([] : List Nat) by decide) rfl rfl (fun _ => rfl) (fun _ => trivial) ?_
      intro r33
      refine c_pnil ?_
      refine cb_part (xs := [PyData.bool r33]) rfl reprS ?_
      intro txt34
      refine b_part rfl rfl neSS ?_
      intro same35
      refine tr_pure rfl rfl ?_
      refine or_m ?_ ?_
      · refine sim_bnd0 ?_
        refine c_tru ?_
        refine c_bin ?_
        refine c_call ?_
        refine c_pcons ?_
        refine c_tup ?_
        refine c_cons ?_
        refine c_take ?_
        refine c_name rfl ?_
        refine t_pure rfl ?_
        refine c_cons ?_
        refine c_take ?_
        refine c_name rfl ?_
        refine t_pure rfl ?_
        refine c_nil ?_
        refine tu_pure (v := (eP (eT (eP (eT PyData.int) (eT PyData.int))) (eT PyData.int)) (r12.1, a29)) rfl rfl ?_
        refine c_pnil ?_
        refine cb_part (xs := [(eP (eT (eP (eT PyData.int) (eT PyData.int))) (eT PyData.int)) (r12.1, a29)]) rfl reprS ?_
        intro txt36
        refine c_name rfl ?_
        refine b_part rfl rfl neSS ?_
        intro same37
        refine tr_pure rfl rfl ?_
        exact sim_ret ⟨rfl, rfl⟩
      intro b38
      refine ite_b (fun _ => ?_) (fun _ => ?_)
      · refine c_blk ?_
        refine c_ret ?_
        refine c_const ?_
        refine rt_d ?_
        exact sim_ret (lpk_rt ⟨rfl, rfl⟩)
      refine c_end ?_
      refine c_blk1 ?_
      refine c_ifS ?_
      refine c_or ?_
      refine c_tru ?_
      refine c_bin ?_
      refine c_call ?_
      refine c_pcons ?_
      refine c_callF ?_
      refine c_adat ?_
      refine c_take ?_
      refine c_tup ?_
      refine c_nil ?_
      refine tu_pure (v := (eT (eP (eT PyData.int) (eT PyData.int))) ([] : List ((List Int) × (List Int)))) rfl rfl ?_
      refine t_pure rfl ?_
      refine c_adat ?_
      refine c_take ?_
      refine c_name rfl ?_
      refine t_pure rfl ?_
      refine c_anil ?_
      refine cf_s (e2 := fun r39 => [some (.d ((eL PyData.int) script_)), some (.cell .own (.lst (List.map PyData.int r23.2))), some (.d (PyData.int a9)), some (.d ((eT (eT PyData.int)) r10.1)), some (.d ((eT (eP (eT PyData.int) (eT PyData.int))) r12.1)), some (.d ((eL (eT PyData.int)) cat25)), some (.d ((eT PyData.int) a29)), some (.d (PyData.str txt30)), none]) (L_is_kept ([] : List ((List Int) × (List Int))) a29) (show List.Nodup ([] : List Nat) by decide) rfl rfl (fun _ => rfl) (fun _ => trivial) ?_
      intro r39
      refine c_pnil ?_
      refine cb_part (xs := [PyData.bool r39]) rfl reprS ?_
      intro txt40
      refine c_const ?_
      refine b_part rfl rfl neSS ?_
      intro same41
      refine tr_pure rfl rfl ?_
      refine or_m ?_ ?_
      · refine sim_bnd0 ?_
        refine c_tru ?_
        refine c_bin ?_
        refine c_call ?_
        refine c_pcons ?_
        refine c_callF ?_
        refine c_adat ?_
        refine c_take ?_
        refine c_name rfl ?_
        refine t_pure rfl ?_
        refine c_adat ?_
        refine c_take ?_
        refine c_name rfl ?_
        refine t_pure rfl ?_
        refine c_anil ?_
        refine cf_s (e2 := fun r42 => [some (.d ((eL PyData.int) script_)), some (.cell .own (.lst (List.map PyData.int r23.2))), some (.d (PyData.int a9)), some (.d ((eT (eT PyData.int)) r10.1)), some (.d ((eT (eP (eT PyData.int) (eT PyData.int))) r12.1)), some (.d ((eL (eT PyData.int)) cat25)), some (.d ((eT PyData.int) a29)), some (.d (PyData.str txt30)), none]) (L_is_kept r12.1 a29) (show List.Nodup ([] : List Nat) by decide) rfl rfl (fun _ => rfl) (fun _ => trivial) ?_
        intro r42
        refine c_pnil ?_
        refine cb_part (xs := [PyData.bool r42]) rfl reprS ?_
        intro txt43
        refine c_call ?_
        refine c_pcons ?_
        refine c_callF ?_
        refine c_adat ?_
        refine c_take ?_
        refine c_name rfl ?_
        refine t_pure rfl ?_
        refine c_adat ?_
        refine c_take ?_
        refine c_name rfl ?_
        refine t_pure rfl ?_
        refine c_anil ?_
        refine cf_s (e2 := fun r44 => [some (.d ((eL PyData.int) script_)), some (.cell .own (.lst (List.map PyData.int r23.2))), some (.d (PyData.int a9)), some (.d ((eT (eT PyData.int)) r10.1)), some (.d ((eT (eP (eT PyData.int) (eT PyData.int))) r12.1)), some (.d ((eL (eT PyData.int)) cat25)), some (.d ((eT PyData.int) a29)), some (.d (PyData.str txt30)), none]) (L_law_keeps r12.1 a29) (show List.Nodup ([] : List Nat) by decide) rfl rfl (fun _ => rfl) (fun _ => trivial) ?_
        intro r44
        refine c_pnil ?_
        refine cb_part (xs := [PyData.bool r44]) rfl reprS ?_
        intro txt45
        refine b_part rfl rfl neSS ?_
        intro same46
        refine tr_pure rfl rfl ?_
        exact sim_ret ⟨rfl, rfl⟩
      intro b47
      refine ite_b (fun _ => ?_) (fun _ => ?_)
      · refine c_blk ?_
        refine c_ret ?_
        refine c_const ?_
        refine rt_d ?_
        exact sim_ret (lpk_rt ⟨rfl, rfl⟩)
      refine c_end ?_
      refine c_end1 ?_
      exact sim_ret (lpk_nx ⟨_, _, datO_d, datO_d, rfl⟩)
    · intro s26 e hK e' hu
      obtain ⟨o27, o28, ho27, ho28, he⟩ := hK
      obtain rfl : e' = [some (.d ((eL PyData.int) script_)), some (.cell .own (.lst (List.map PyData.int r23.2))), some (.d (PyData.int a9)), some (.d ((eT (eT PyData.int)) r10.1)), some (.d ((eT (eP (eT PyData.int) (eT PyData.int))) r12.1)), some (.d ((eL (eT PyData.int)) cat25)), o27, o28, none] := by rw [← hu, he]; rfl
      clear hu he
      refine c_end1 ?_
      exact sim_ret (lpk_nx ⟨_, _, _, _, _, _, datO_d, datO_d, datO_d, datO_d, ho27, ho28, rfl⟩)
    intro r v e hr e' hu
    obtain ⟨rfl, hr⟩ := hr
    subst hu
    exact sim_ret (lpk_rt ⟨rfl, hr⟩)
  · intro s2 e hK e' hu
    obtain ⟨o3, o4, o5, o6, o7, o8, ho3, ho4, ho5, ho6, ho7, ho8, he⟩ := hK
    obtain rfl : e' = [some (.d ((eL PyData.int) script_)), some (.cell .own (.lst (List.map PyData.int s2))), o3, o4, o5, o6, o7, o8, none] := by rw [← hu, he]; rfl
    clear hu he
    refine c_blk1 ?_
    refine c_ret ?_
    refine c_const ?_
    refine rt_d ?_
    exact sim_ret ⟨.inl rfl, rfl⟩
  intro r v e hr e' hu
  obtain ⟨rfl, hr⟩ := hr
  subst hu
  exact sim_ret ⟨.inl rfl, hr⟩
end BH.K20

set_option maxRecDepth 100000
set_option maxHeartbeats 4000000
namespace BH.K20
open PySem PySem.Spec PyProof.Rows L2
def top (i : Nat) : Stmt := PySem.Challenge.pw_barterheaps_k20_rows_kept.main.body.getD i (.Pass ⟨0, 0, 0, 0⟩)
abbrev s_law_deck : Stmt := top 5
abbrev s_law_draw : Stmt := top 6
abbrev s_law_rank : Stmt := top 8
abbrev s_law_cut : Stmt := top 9
abbrev s_law_scale : Stmt := top 10
abbrev s_law_lot : Stmt := top 13
abbrev s_law_sums : Stmt := top 11
abbrev s_law_pick : Stmt := top 7
abbrev s_law_heap : Stmt := top 12
abbrev s_law_book : Stmt := top 14
abbrev s_law_sum_row : Stmt := top 16
abbrev s_law_number_row : Stmt := top 15
abbrev s_law_bent_row : Stmt := top 17
abbrev s_sum_by : Stmt := top 1
abbrev s_changes_of_book : Stmt := top 2
abbrev s_is_kept : Stmt := top 3
abbrev s_law_dot : Stmt := top 18
abbrev s_law_keeps : Stmt := top 19
abbrev s_law : Stmt := top 20
structure Txt (K : PySem.W.Frag) (mg : Str → Option Value) where
  z_len : mg "len" = none
  z_abs : mg "abs" = none
  z_int : mg "int" = none
  z_list : mg "list" = none
  z_range : mg "range" = none
  z_zip : mg "zip" = none
  z_tuple : mg "tuple" = none
  z_sum : mg "sum" = none
  z_min : mg "min" = none
  z_max : mg "max" = none
  z_all : mg "all" = none
  z_repr : mg "repr" = none
  a_law_deck : Addr
  d_law_deck : FuncData
  g_law_deck : mg "_law_deck" = some (.ref a_law_deck)
  F_law_deck : Fun K "_law_deck" "_law_deck" s_law_deck a_law_deck d_law_deck
  b_law_deck : Binds K d_law_deck ["script"] []
  a_law_draw : Addr
  d_law_draw : FuncData
  g_law_draw : mg "_law_draw" = some (.ref a_law_draw)
  F_law_draw : Fun K "_law_draw" "_law_draw" s_law_draw a_law_draw d_law_draw
  b_law_draw : Binds K d_law_draw ["deck", "many"] []
  a_law_rank : Addr
  d_law_rank : FuncData
  g_law_rank : mg "_law_rank" = some (.ref a_law_rank)
  F_law_rank : Fun K "_law_rank" "_law_rank" s_law_rank a_law_rank d_law_rank
  b_law_rank : Binds K d_law_rank ["rows"] []
  a_law_cut : Addr
  d_law_cut : FuncData
  g_law_cut : mg "_law_cut" = some (.ref a_law_cut)
  F_law_cut : Fun K "_law_cut" "_law_cut" s_law_cut a_law_cut d_law_cut
  b_law_cut : Binds K d_law_cut ["rows"] []
  a_law_scale : Addr
  d_law_scale : FuncData
  g_law_scale : mg "_law_scale" = some (.ref a_law_scale)
  F_law_scale : Fun K "_law_scale" "_law_scale" s_law_scale a_law_scale d_law_scale
  b_law_scale : Binds K d_law_scale ["deck"] []
  a_law_lot : Addr
  d_law_lot : FuncData
  g_law_lot : mg "_law_lot" = some (.ref a_law_lot)
  F_law_lot : Fun K "_law_lot" "_law_lot" s_law_lot a_law_lot d_law_lot
  b_law_lot : Binds K d_law_lot ["scale", "sums"] []
  a_law_sums : Addr
  d_law_sums : FuncData
  g_law_sums : mg "_law_sums" = some (.ref a_law_sums)
  F_law_sums : Fun K "_law_sums" "_law_sums" s_law_sums a_law_sums d_law_sums
  b_law_sums : Binds K d_law_sums ["scale", "heap"] []
  a_law_pick : Addr
  d_law_pick : FuncData
  g_law_pick : mg "_law_pick" = some (.ref a_law_pick)
  F_law_pick : Fun K "_law_pick" "_law_pick" s_law_pick a_law_pick d_law_pick
  b_law_pick : Binds K d_law_pick ["deck", "items"] []
  a_law_heap : Addr
  d_law_heap : FuncData
  g_law_heap : mg "_law_heap" = some (.ref a_law_heap)
  F_law_heap : Fun K "_law_heap" "_law_heap" s_law_heap a_law_heap d_law_heap
  b_law_heap : Binds K d_law_heap ["deck", "scale", "most"] []
  a_law_book : Addr
  d_law_book : FuncData
  g_law_book : mg "_law_book" = some (.ref a_law_book)
  F_law_book : Fun K "_law_book" "_law_book" s_law_book a_law_book d_law_book
  b_law_book : Binds K d_law_book ["deck", "scale", "many"] []
  a_law_sum_row : Addr
  d_law_sum_row : FuncData
  g_law_sum_row : mg "_law_sum_row" = some (.ref a_law_sum_row)
  F_law_sum_row : Fun K "_law_sum_row" "_law_sum_row" s_law_sum_row a_law_sum_row d_law_sum_row
  b_law_sum_row : Binds K d_law_sum_row ["deck", "scale"] []
  a_law_number_row : Addr
  d_law_number_row : FuncData
  g_law_number_row : mg "_law_number_row" = some (.ref a_law_number_row)
  F_law_number_row : Fun K "_law_number_row" "_law_number_row" s_law_number_row a_law_number_row d_law_number_row
  b_law_number_row : Binds K d_law_number_row ["deck", "kinds"] []
  a_law_bent_row : Addr
  d_law_bent_row : FuncData
  g_law_bent_row : mg "_law_bent_row" = some (.ref a_law_bent_row)
  F_law_bent_row : Fun K "_law_bent_row" "_law_bent_row" s_law_bent_row a_law_bent_row d_law_bent_row
  b_law_bent_row : Binds K d_law_bent_row ["deck", "row"] []
  a_sum_by : Addr
  d_sum_by : FuncData
  g_sum_by : mg "sum_by" = some (.ref a_sum_by)
  F_sum_by : Fun K "sum_by" "sum_by" s_sum_by a_sum_by d_sum_by
  b_sum_by : Binds K d_sum_by ["row", "heap"] []
  a_changes_of_book : Addr
  d_changes_of_book : FuncData
  g_changes_of_book : mg "changes_of_book" = some (.ref a_changes_of_book)
  F_changes_of_book : Fun K "changes_of_book" "changes_of_book" s_changes_of_book a_changes_of_book d_changes_of_book
  b_changes_of_book : Binds K d_changes_of_book ["book"] []
  a_is_kept : Addr
  d_is_kept : FuncData
  g_is_kept : mg "is_kept" = some (.ref a_is_kept)
  F_is_kept : Fun K "is_kept" "is_kept" s_is_kept a_is_kept d_is_kept
  b_is_kept : Binds K d_is_kept ["book", "row"] []
  a_law_dot : Addr
  d_law_dot : FuncData
  g_law_dot : mg "_law_dot" = some (.ref a_law_dot)
  F_law_dot : Fun K "_law_dot" "_law_dot" s_law_dot a_law_dot d_law_dot
  b_law_dot : Binds K d_law_dot ["row", "heap"] []
  a_law_keeps : Addr
  d_law_keeps : FuncData
  g_law_keeps : mg "_law_keeps" = some (.ref a_law_keeps)
  F_law_keeps : Fun K "_law_keeps" "_law_keeps" s_law_keeps a_law_keeps d_law_keeps
  b_law_keeps : Binds K d_law_keeps ["book", "row"] []
  a_law : Addr
  d_law : FuncData
  g_law : mg "law" = some (.ref a_law)
  F_law : Fun K "law" "law" s_law a_law d_law
  b_law : Binds K d_law ["script"] []
section
variable {P : Program} {w : World} {K : PySem.W.Frag} {mg : Str → Option Value} {base : Heap}
theorem sc_law_deck : FnScope ["script", "great", "mixed", "cell", "more"] ["script"] (defScope s_law_deck) := ⟨rfl, rfl, rfl, by decide +kernel, rfl, by decide +kernel, by decide +kernel⟩
theorem G_law_deck (T : Txt K mg) : FnG P w K mg base 1 T.a_law_deck T.d_law_deck ["script"] (spF mg K 1 F_law_deck) := by
  refine fn_data T.F_law_deck sc_law_deck fun cdv A outer s H E hr hg => ?_
  exact (fss_cons (fs_par (i := 1) (j := 2) rfl sc_law_deck.nd rfl rfl (by decide) rfl rfl (fps_cons fe_int (fps_cons (fe_bin od_add fe_int (fe_bin od_mul fe_int (fe_callB cd_len (by rfl) T.z_len rfl (fps_cons (fe_name (pv 0)) fps_nil)))) fps_nil)) rfl)
    (fss_cons (fs_for rfl (fi_seq (fe_slice (fe_name (pv 0)) fo_none (fo_some fe_int))) (fg_name (i := 3) sc_law_deck.nd rfl (by first | exact Or.inl rfl | exact Or.inr rfl)) (fss_cons (fs_set (i := 4) sc_law_deck.nd rfl (by first | exact Or.inl rfl | exact Or.inr rfl) (fe_bin od_add (fe_bin od_add (fe_bin od_mul fe_int (fe_callB cd_abs (by rfl) T.z_abs rfl (fps_cons (fe_name (pv 3)) fps_nil))) (fe_callTy cd_int (by rfl) T.z_int rfl (fps_cons (fe_cmp od_lt (fe_name (pv 3)) fe_int) fps_nil))) fe_int))
    (fss_cons (fs_set (i := 2) sc_law_deck.nd rfl (by first | exact Or.inl rfl | exact Or.inr rfl) (fe_bin od_mod (fe_callTy cd_int (by rfl) T.z_int rfl (fps_cons (fe_bin od_add (fe_bin od_mul (fe_name (pv 2)) fe_int) (fe_name (pv 4))) fps_nil)) fe_int))
    (fss_cons (fs_if (ft_cmp od_ge (fe_callB cd_abs (by rfl) T.z_abs rfl (fps_cons (fe_name (pv 3)) fps_nil)) (fe_bin od_pow fe_int fe_int)) (fss_cons (fs_set (i := 1) sc_law_deck.nd rfl (by first | exact Or.inl rfl | exact Or.inr rfl) (fe_bin od_add (fe_bin od_mul (fe_name (pv 1)) fe_int) (fe_callB cd_abs (by rfl) T.z_abs rfl (fps_cons (fe_name (pv 3)) fps_nil))))
    fss_nil) fss_nil)
    fss_nil))))
    (fss_cons (fs_ret (fe_lst (fcs_cons (FE.take (fe_name (pv 1))) (fcs_cons (FE.take (fe_name (pv 2))) (fcs_cons (FE.take fe_int) fcs_nil)))))
    fss_nil)))
theorem sc_law_draw : FnScope ["deck", "many", "digit", "mixed"] ["deck", "many"] (defScope s_law_draw) := ⟨rfl, rfl, rfl, by decide +kernel, rfl, by decide +kernel, by decide +kernel⟩
theorem G_law_draw (T : Txt K mg) : FnG P w K mg base 1 T.a_law_draw T.d_law_draw ["deck", "many"] (spF mg K 2 F_law_draw) := by
  refine fn_data T.F_law_draw sc_law_draw fun cdv A outer s H E hr hg => ?_
  exact (fss_cons (fs_if (ft_cmp od_gt (fe_ix (fe_name (pv 0)) fe_int) fe_int) (fss_cons (fs_set (i := 2) sc_law_draw.nd rfl (by first | exact Or.inl rfl | exact Or.inr rfl) (fe_bin od_mod (fe_callTy cd_int (by rfl) T.z_int rfl (fps_cons (fe_ix (fe_name (pv 0)) fe_int) fps_nil)) (fe_name (pv 1))))
    (fss_cons (fs_setIx (FE.take (fe_bin od_div (fe_ix (fe_name (pv 0)) fe_int) (fe_name (pv 1)))) (fe_name (pv 0)) (FE.take fe_int))
    (fss_cons (fs_ret (fe_name (pv 2)))
    fss_nil))) fss_nil)
    (fss_cons (fs_setIx (FE.take (fe_bin od_add (fe_ix (fe_name (pv 0)) fe_int) fe_int)) (fe_name (pv 0)) (FE.take fe_int))
    (fss_cons (fs_set (i := 3) sc_law_draw.nd rfl (by first | exact Or.inl rfl | exact Or.inr rfl) (fe_bin od_mod (fe_callTy cd_int (by rfl) T.z_int rfl (fps_cons (fe_bin od_add (fe_ix (fe_name (pv 0)) fe_int) (fe_bin od_mul fe_int (fe_ix (fe_name (pv 0)) fe_int))) fps_nil)) fe_int))
    (fss_cons (fs_set (i := 3) sc_law_draw.nd rfl (by first | exact Or.inl rfl | exact Or.inr rfl) (fe_bin od_mod (fe_callTy cd_int (by rfl) T.z_int rfl (fps_cons (fe_bin od_mul (fe_name (pv 3)) (fe_bin od_add (fe_bin od_mod (fe_name (pv 3)) fe_int) fe_int)) fps_nil)) fe_int))
    (fss_cons (fs_ret (fe_bin od_mod (fe_bin od_div (fe_bin od_mod (fe_callTy cd_int (by rfl) T.z_int rfl (fps_cons (fe_bin od_mul (fe_name (pv 3)) (fe_name (pv 3))) fps_nil)) fe_int) fe_int) (fe_name (pv 1))))
    fss_nil)))))
theorem sc_law_rank : FnScope ["rows", "left", "found", "kind", "leads", "lead", "others", "row", "at", "a", "b"] ["rows"] (defScope s_law_rank) := ⟨rfl, rfl, rfl, by decide +kernel, rfl, by decide +kernel, by decide +kernel⟩
theorem G_law_rank (T : Txt K mg) : FnG P w K mg base 1 T.a_law_rank T.d_law_rank ["rows"] (spF mg K 1 F_law_rank) := by
  refine fn_data T.F_law_rank sc_law_rank fun cdv A outer s H E hr hg => ?_
  exact (fss_cons (fs_bind (FE.take (fe_tup (fcs_cons (FE.take (fe_comp (own := [("row", 7)]) rfl sc_law_rank.nd (fi_seq (fe_name (pv 0))) (blkOk_by (by kernel_rfl)) (fun _ _ _ _ _ => (fg_name (i := 7) sc_law_rank.nd rfl (by first | exact Or.inl rfl | exact Or.inr rfl))) (fun _ _ _ _ _ => fts_nil) (fun _ _ _ _ _ => (FE.take (fe_callTy cd_list (by rfl) T.z_list rfl (fps_cons (fe_name (pv 7)) fps_nil)))))) (fcs_cons (FE.take fe_int) fcs_nil)))) (fg_tup rfl (fgs_cons (fg_name (i := 1) sc_law_rank.nd rfl (by first | exact Or.inl rfl | exact Or.inr rfl)) (fgs_cons (fg_name (i := 2) sc_law_rank.nd rfl (by first | exact Or.inl rfl | exact Or.inr rfl)) fgs_nil)) 2 (bCons_len (bCons_len bNil_len))))
    (fss_cons (fs_for rfl (fi_range1 (by rfl) T.z_range (fps_cons (fe_callB cd_len (by rfl) T.z_len rfl (fps_cons (fe_ix (fe_name (pv 0)) fe_int) fps_nil)) fps_nil)) (fg_name (i := 3) sc_law_rank.nd rfl (by first | exact Or.inl rfl | exact Or.inr rfl)) (fss_cons (fs_frz 4 (fs_setLc (i := 4) (hc := rfl) (hN := sc_law_rank.nd) (hi' := rfl) (hy := rfl) (hsw := sw_true rfl rfl rfl rfl) (own := [("at", 8)]) (fi_range1 (by rfl) T.z_range (fps_cons (fe_callB cd_len (by rfl) T.z_len rfl (fps_cons (fe_name (pv 1)) fps_nil)) fps_nil)) (blkOk_by (by kernel_rfl)) (fun _ _ _ _ _ => (fg_name (i := 8) sc_law_rank.nd rfl (by first | exact Or.inl rfl | exact Or.inr rfl))) (fun _ _ _ _ _ => (fts_one (ft_cmp (od_ne (hu65 hr)) (fe_ix (fe_ix (fe_name (pv 1)) (fe_name (pv 8))) (fe_name (pv 3))) fe_int))) (fun _ _ _ _ _ => (FE.take (fe_name (pv 8))))))
    (fss_cons (fs_if (ft_cmp (od_ne (hu65 hr)) (fe_name (pv 4)) (fe_lst fcs_nil)) (fss_cons (fs_bind (FE.take (fe_tup (fcs_cons (FE.take (fe_ix (fe_name (pv 1)) (fe_ix (fe_name (pv 4)) fe_int))) (fcs_cons (FE.take (fe_bin od_add (fe_name (pv 2)) fe_int)) fcs_nil)))) (fg_tup rfl (fgs_cons (fg_name (i := 5) sc_law_rank.nd rfl (by first | exact Or.inl rfl | exact Or.inr rfl)) (fgs_cons (fg_name (i := 2) sc_law_rank.nd rfl (by first | exact Or.inl rfl | exact Or.inr rfl)) fgs_nil)) 2 (bCons_len (bCons_len bNil_len))))
    (fss_cons (fs_frz 6 (fs_set (i := 6) sc_law_rank.nd rfl (by first | exact Or.inl rfl | exact Or.inr rfl) (fe_bin od_add (fe_slice (fe_name (pv 1)) fo_none (fo_some (fe_ix (fe_name (pv 4)) fe_int))) (fe_slice (fe_name (pv 1)) (fo_some (fe_bin od_add (fe_ix (fe_name (pv 4)) fe_int) fe_int)) fo_none))))
    (fss_cons (fs_frz 1 (fs_set (i := 1) sc_law_rank.nd rfl (by first | exact Or.inl rfl | exact Or.inr rfl) (fe_comp (own := [("row", 7)]) rfl sc_law_rank.nd (fi_seq (fe_name (pv 6))) (blkOk_by (by kernel_rfl)) (fun _ _ _ _ _ => (fg_name (i := 7) sc_law_rank.nd rfl (by first | exact Or.inl rfl | exact Or.inr rfl))) (fun _ _ _ _ _ => fts_nil) (fun _ _ _ _ _ => (FE.take (fe_comp (own := [("a", 9), ("b", 10)]) rfl sc_law_rank.nd (fi_zip (by rfl) T.z_zip (fcs_cons (FE.take (fe_name (pv 7))) (fcs_cons (FE.take (fe_name (pv 5))) fcs_nil))) (blkOk_by (by kernel_rfl)) (fun _ _ _ _ _ => (fg_tup rfl (fgs_cons (fg_name (i := 9) sc_law_rank.nd rfl (by first | exact Or.inl rfl | exact Or.inr rfl)) (fgs_cons (fg_name (i := 10) sc_law_rank.nd rfl (by first | exact Or.inl rfl | exact Or.inr rfl)) fgs_nil)) 2 (bCons_len (bCons_len bNil_len)))) (fun _ _ _ _ _ => fts_nil) (fun _ _ _ _ _ => (FE.take (fe_bin od_sub (fe_bin od_mul (fe_name (pv 9)) (fe_ix (fe_name (pv 5)) (fe_name (pv 3)))) (fe_bin od_mul (fe_name (pv 10)) (fe_ix (fe_name (pv 7)) (fe_name (pv 3)))))))))))))
    fss_nil))) fss_nil)
    fss_nil)))
    (fss_cons (fs_ret (fe_name (pv 2)))
    fss_nil)))
theorem sc_law_cut : FnScope ["rows", "row"] ["rows"] (defScope s_law_cut) := ⟨rfl, rfl, rfl, by decide +kernel, rfl, by decide +kernel, by decide +kernel⟩
theorem G_law_cut (T : Txt K mg) : FnG P w K mg base 2 T.a_law_cut T.d_law_cut ["rows"] (spF mg K 1 F_law_cut) := by
  refine fn_data T.F_law_cut sc_law_cut fun cdv A outer s H E hr hg => ?_
  exact (fss_cons (fs_while (fun _ => FUEL) (ft_cmp od_gt (fe_bin od_sub (fe_callB cd_len (by rfl) T.z_len rfl (fps_cons (fe_ix (fe_name (pv 0)) fe_int) fps_nil)) (fe_call (G_law_rank (P := P) (w := w) (base := base) T) (hr.mono (by decide)) hg (by rfl) T.g_law_rank T.F_law_rank.kp T.b_law_rank (fas_dat (FE.take (fe_name (pv 0))) fas_nil))) fe_int) (fss_cons (fs_frz 0 (fs_setLc (i := 0) (hc := rfl) (hN := sc_law_cut.nd) (hi' := rfl) (hy := rfl) (hsw := sw_true rfl rfl rfl rfl) (own := [("row", 1)]) (fi_seq (fe_name (pv 0))) (blkOk_by (by kernel_rfl)) (fun _ _ _ _ _ => (fg_name (i := 1) sc_law_cut.nd rfl (by first | exact Or.inl rfl | exact Or.inr rfl))) (fun _ _ _ _ _ => fts_nil) (fun _ _ _ _ _ => (FE.take (fe_slice (fe_name (pv 1)) fo_none (fo_some (fe_neg fe_int)))))))
    fss_nil))
    (fss_cons (fs_ret (fe_name (pv 0)))
    fss_nil))
theorem sc_law_scale : FnScope ["deck", "way", "wide", "rows", "kinds", "many", "kind", "row", "cell", "column"] ["deck"] (defScope s_law_scale) := ⟨rfl, rfl, rfl, by decide +kernel, rfl, by decide +kernel, by decide +kernel⟩
theorem G_law_scale (T : Txt K mg) : FnG P w K mg base 3 T.a_law_scale T.d_law_scale ["deck"] (spF mg K 1 F_law_scale) := by
  refine fn_data T.F_law_scale sc_law_scale fun cdv A outer s H E hr hg => ?_
  exact (fss_cons (fs_frz 1 (fs_set (i := 1) sc_law_scale.nd rfl (by first | exact Or.inl rfl | exact Or.inr rfl) (fe_call (G_law_draw (P := P) (w := w) (base := base) T) (hr.mono (by decide)) hg (by rfl) T.g_law_draw T.F_law_draw.kp T.b_law_draw (fas_ref (pv 0) (fas_dat (FE.take fe_int) fas_nil)))))
    (fss_cons (fs_if (ft_cmp od_lt (fe_name (pv 1)) fe_int) (fss_cons (fs_ret (fe_tup (fcs_cons (FE.take (fe_callTy cd_tuple (by rfl) T.z_tuple rfl (fps_cons (fe_comp (own := [("kind", 6)]) rfl sc_law_scale.nd (fi_range1 (by rfl) T.z_range (fps_cons (fe_bin od_add fe_int (fe_call (G_law_draw (P := P) (w := w) (base := base) T) (hr.mono (by decide)) hg (by rfl) T.g_law_draw T.F_law_draw.kp T.b_law_draw (fas_ref (pv 0) (fas_dat (FE.take fe_int) fas_nil)))) fps_nil)) (blkOk_by (by kernel_rfl)) (fun _ _ _ _ _ => (fg_name (i := 6) sc_law_scale.nd rfl (by first | exact Or.inl rfl | exact Or.inr rfl))) (fun _ _ _ _ _ => fts_nil) (fun _ _ _ _ _ => (FE.take (fe_bin od_add fe_int (fe_call (G_law_draw (P := P) (w := w) (base := base) T) (hr.mono (by decide)) hg (by rfl) T.g_law_draw T.F_law_draw.kp T.b_law_draw (fas_ref (pv 0) (fas_dat (FE.take fe_int) fas_nil))))))) fps_nil))) fcs_nil)))
    fss_nil) fss_nil)
    (fss_cons (fs_if (ft_cmp (od_eq (hu65 hr)) (fe_name (pv 1)) fe_int) (fss_cons (fs_set (i := 2) sc_law_scale.nd rfl (by first | exact Or.inl rfl | exact Or.inr rfl) (fe_bin od_add fe_int (fe_call (G_law_draw (P := P) (w := w) (base := base) T) (hr.mono (by decide)) hg (by rfl) T.g_law_draw T.F_law_draw.kp T.b_law_draw (fas_ref (pv 0) (fas_dat (FE.take fe_int) fas_nil)))))
    (fss_cons (fs_frz 3 (fs_setLc (i := 3) (hc := rfl) (hN := sc_law_scale.nd) (hi' := rfl) (hy := rfl) (hsw := sw_true rfl rfl rfl rfl) (own := [("row", 7)]) (fi_range1 (by rfl) T.z_range (fps_cons fe_int fps_nil)) (blkOk_by (by kernel_rfl)) (fun _ _ _ _ _ => (fg_name (i := 7) sc_law_scale.nd rfl (by first | exact Or.inl rfl | exact Or.inr rfl))) (fun _ _ _ _ _ => fts_nil) (fun _ _ _ _ _ => (FE.take (fe_callTy cd_tuple (by rfl) T.z_tuple rfl (fps_cons (fe_comp (own := [("cell", 8)]) rfl sc_law_scale.nd (fi_range1 (by rfl) T.z_range (fps_cons (fe_bin od_mul fe_int (fe_name (pv 2))) fps_nil)) (blkOk_by (by kernel_rfl)) (fun _ _ _ _ _ => (fg_name (i := 8) sc_law_scale.nd rfl (by first | exact Or.inl rfl | exact Or.inr rfl))) (fun _ _ _ _ _ => fts_nil) (fun _ _ _ _ _ => (FE.take (fe_callTy cd_int (by rfl) T.z_int rfl (fps_cons (fe_cmp (od_eq (hu65 hr)) (fe_bin od_div (fe_name (pv 8)) (fe_name (pv 2))) (fe_name (pv 7))) fps_nil))))) fps_nil))))))
    (fss_cons (fs_ret (fe_callTy cd_tuple (by rfl) T.z_tuple rfl (fps_cons (fe_bin od_add (fe_name (pv 3)) (fe_comp (own := [("column", 9)]) rfl sc_law_scale.nd (fi_range1 (by rfl) T.z_range (fps_cons (fe_name (pv 2)) fps_nil)) (blkOk_by (by kernel_rfl)) (fun _ _ _ _ _ => (fg_name (i := 9) sc_law_scale.nd rfl (by first | exact Or.inl rfl | exact Or.inr rfl))) (fun _ _ _ _ _ => fts_nil) (fun _ _ _ _ _ => (FE.take (fe_callTy cd_tuple (by rfl) T.z_tuple rfl (fps_cons (fe_comp (own := [("cell", 8)]) rfl sc_law_scale.nd (fi_range1 (by rfl) T.z_range (fps_cons (fe_bin od_mul fe_int (fe_name (pv 2))) fps_nil)) (blkOk_by (by kernel_rfl)) (fun _ _ _ _ _ => (fg_name (i := 8) sc_law_scale.nd rfl (by first | exact Or.inl rfl | exact Or.inr rfl))) (fun _ _ _ _ _ => fts_nil) (fun _ _ _ _ _ => (FE.take (fe_callTy cd_int (by rfl) T.z_int rfl (fps_cons (fe_cmp (od_eq (hu65 hr)) (fe_bin od_mod (fe_name (pv 8)) (fe_name (pv 2))) (fe_name (pv 9))) fps_nil))))) fps_nil)))))) fps_nil)))
    fss_nil))) fss_nil)
    (fss_cons (fs_bind (FE.take (fe_tup (fcs_cons (FE.take (fe_bin od_add fe_int (fe_call (G_law_draw (P := P) (w := w) (base := base) T) (hr.mono (by decide)) hg (by rfl) T.g_law_draw T.F_law_draw.kp T.b_law_draw (fas_ref (pv 0) (fas_dat (FE.take fe_int) fas_nil))))) (fcs_cons (FE.take (fe_bin od_add fe_int (fe_call (G_law_draw (P := P) (w := w) (base := base) T) (hr.mono (by decide)) hg (by rfl) T.g_law_draw T.F_law_draw.kp T.b_law_draw (fas_ref (pv 0) (fas_dat (FE.take fe_int) fas_nil))))) fcs_nil)))) (fg_tup rfl (fgs_cons (fg_name (i := 4) sc_law_scale.nd rfl (by first | exact Or.inl rfl | exact Or.inr rfl)) (fgs_cons (fg_name (i := 5) sc_law_scale.nd rfl (by first | exact Or.inl rfl | exact Or.inr rfl)) fgs_nil)) 2 (bCons_len (bCons_len bNil_len))))
    (fss_rows (rw := 3) (ro := 7) (ki := 6) (own := [("row", 7)]) rfl sc_law_scale.nd rfl rfl (sw_true rfl rfl rfl rfl) (fi_range1 (by rfl) T.z_range (fps_cons (fe_name (pv 5)) fps_nil)) (blkOk_by (by kernel_rfl)) (fun _ _ _ _ _ => (fg_name (i := 7) sc_law_scale.nd rfl (by first | exact Or.inl rfl | exact Or.inr rfl))) (fun _ _ _ _ _ => (fe_comp (own := [("kind", 6)]) rfl sc_law_scale.nd (fi_range1 (by rfl) T.z_range (fps_cons (fe_name (pv 4)) fps_nil)) (blkOk_by (by kernel_rfl)) (fun _ _ _ _ _ => (fg_name (i := 6) sc_law_scale.nd rfl (by first | exact Or.inl rfl | exact Or.inr rfl))) (fun _ _ _ _ _ => fts_nil) (fun _ _ _ _ _ => (FE.take (fe_call (G_law_draw (P := P) (w := w) (base := base) T) (hr.mono (by decide)) hg (by rfl) T.g_law_draw T.F_law_draw.kp T.b_law_draw (fas_ref (pv 0) (fas_dat (FE.take fe_int) fas_nil))))))) (by decide) (fun _ => rfl) (by rfl) T.z_range (fps_cons (fe_name (pv 4)) fps_nil) rfl (fun _ => rfl) rfl (by first | exact Or.inl rfl | exact Or.inr rfl) (.inl rfl) (ft_cmp (od_eq (hu65 hr)) (fe_callB (cd_sum rfl) (by rfl) T.z_sum rfl (fps_cons (fe_comp (own := [("row", 7)]) rfl sc_law_scale.nd (fi_seq (fe_name (pv 3))) (blkOk_by (by kernel_rfl)) (fun _ _ _ _ _ => (fg_name (i := 7) sc_law_scale.nd rfl (by first | exact Or.inl rfl | exact Or.inr rfl))) (fun _ _ _ _ _ => fts_nil) (fun _ _ _ _ _ => (FE.take (fe_ix (fe_name (pv 7)) (fe_name (pv 6)))))) fps_nil)) fe_int) (fe_call (G_law_draw (P := P) (w := w) (base := base) T) (hr.mono (by decide)) hg (by rfl) T.g_law_draw T.F_law_draw.kp T.b_law_draw (fas_ref (pv 0) (fas_dat (FE.take (fe_name (pv 5))) fas_nil))) (fun _ _ => rfl) rfl (by first | exact Or.inl rfl | exact Or.inr rfl) (.inl rfl) rfl (pv 3) (pv 7) (pv 6) (by decide) (by decide) (by decide) rfl rfl rfl (fun _ => rfl)
    (fss_cons (fs_ret (fe_callTy cd_tuple (by rfl) T.z_tuple rfl (fps_cons (fe_comp (own := [("row", 7)]) rfl sc_law_scale.nd (fi_seq (fe_call (G_law_cut (P := P) (w := w) (base := base) T) (hr.mono (by decide)) hg (by rfl) T.g_law_cut T.F_law_cut.kp T.b_law_cut (fas_dat (FE.take (fe_name (pv 3))) fas_nil))) (blkOk_by (by kernel_rfl)) (fun _ _ _ _ _ => (fg_name (i := 7) sc_law_scale.nd rfl (by first | exact Or.inl rfl | exact Or.inr rfl))) (fun _ _ _ _ _ => fts_nil) (fun _ _ _ _ _ => (FE.take (fe_callTy cd_tuple (by rfl) T.z_tuple rfl (fps_cons (fe_name (pv 7)) fps_nil))))) fps_nil)))
    fss_nil))))))
theorem sc_law_lot : FnScope ["scale", "sums", "found", "kind", "longer", "counts", "left", "count", "filled", "later", "most", "row", "one", "full"] ["scale", "sums"] (defScope s_law_lot) := ⟨rfl, rfl, rfl, by decide +kernel, rfl, by decide +kernel, by decide +kernel⟩
theorem G_law_lot (T : Txt K mg) : FnG P w K mg base 1 T.a_law_lot T.d_law_lot ["scale", "sums"] (spF mg K 2 F_law_lot) := by
  refine fn_data T.F_law_lot sc_law_lot fun cdv A outer s H E hr hg => ?_
  exact (fss_cons (fs_frz 2 (fs_set (i := 2) sc_law_lot.nd rfl (by first | exact Or.inl rfl | exact Or.inr rfl) (fe_lst (fcs_cons (FE.take (fe_tup (fcs_cons (FE.take (fe_tup fcs_nil)) (fcs_cons (FE.take (fe_name (pv 1))) fcs_nil)))) fcs_nil))))
    (fss_cons (fs_for rfl (fi_range1 (by rfl) T.z_range (fps_cons (fe_callB cd_len (by rfl) T.z_len rfl (fps_cons (fe_ix (fe_name (pv 0)) fe_int) fps_nil)) fps_nil)) (fg_name (i := 3) sc_law_lot.nd rfl (by first | exact Or.inl rfl | exact Or.inr rfl)) (fss_cons (fs_set (i := 4) sc_law_lot.nd rfl (by first | exact Or.inl rfl | exact Or.inr rfl) (fe_lst fcs_nil))
    (fss_cons (fs_for rfl (fi_seq (fe_name (pv 2))) (fg_tup rfl (fgs_cons (fg_name (i := 5) sc_law_lot.nd rfl (by first | exact Or.inl rfl | exact Or.inr rfl)) (fgs_cons (fg_name (i := 6) sc_law_lot.nd rfl (by first | exact Or.inl rfl | exact Or.inr rfl)) fgs_nil)) 2 (bCons_len (bCons_len bNil_len))) (fss_cons (fs_set (i := 7) sc_law_lot.nd rfl (by first | exact Or.inl rfl | exact Or.inr rfl) fe_int)
    (fss_cons (fs_while (fun _ => FUEL) (ft_cmp od_ge (fe_callB (cd_min1 rfl (hu65 hr)) (by rfl) T.z_min rfl (fps_cons (fe_name (pv 6)) fps_nil)) fe_int) (fss_cons (fs_frz 8 (fs_setLc (i := 8) (hc := rfl) (hN := sc_law_lot.nd) (hi' := rfl) (hy := rfl) (hsw := sw_true rfl rfl rfl rfl) (own := [("row", 11)]) (fi_seq (fe_name (pv 0))) (blkOk_by (by kernel_rfl)) (fun _ _ _ _ _ => (fg_name (i := 11) sc_law_lot.nd rfl (by first | exact Or.inl rfl | exact Or.inr rfl))) (fun _ _ _ _ _ => fts_nil) (fun _ _ _ _ _ => (FE.take fe_int))))
    (fss_cons (fs_for rfl (fi_range2 (by rfl) T.z_range (fps_cons (fe_bin od_add (fe_name (pv 3)) fe_int) (fps_cons (fe_callB cd_len (by rfl) T.z_len rfl (fps_cons (fe_ix (fe_name (pv 0)) fe_int) fps_nil)) fps_nil))) (fg_name (i := 9) sc_law_lot.nd rfl (by first | exact Or.inl rfl | exact Or.inr rfl)) (fss_cons (fs_set (i := 10) sc_law_lot.nd rfl (by first | exact Or.inl rfl | exact Or.inr rfl) (fe_callB (cd_min1 rfl (hu65 hr)) (by rfl) T.z_min rfl (fps_cons (fe_comp (own := [("one", 12), ("row", 11)]) rfl sc_law_lot.nd (fi_zipM (by rfl) T.z_zip (fcs_cons (FE.take (fe_name (pv 6))) (fcs_cons (FE.take (fe_name (pv 0))) fcs_nil))) (blkOk_by (by kernel_rfl)) (fun _ _ _ _ _ => (fg_tup rfl (fgs_cons (fg_name (i := 12) sc_law_lot.nd rfl (by first | exact Or.inl rfl | exact Or.inr rfl)) (fgs_cons (fg_name (i := 11) sc_law_lot.nd rfl (by first | exact Or.inl rfl | exact Or.inr rfl)) fgs_nil)) 2 (bCons_len (bCons_len bNil_len)))) (fun _ _ _ _ _ => (fts_one (ft_cmp od_gt (fe_ix (fe_name (pv 11)) (fe_name (pv 9))) fe_int))) (fun _ _ _ _ _ => (FE.take (fe_bin od_div (fe_name (pv 12)) (fe_ix (fe_name (pv 11)) (fe_name (pv 9))))))) fps_nil)))
    (fss_cons (fs_frz 8 (fs_setLc (i := 8) (hc := rfl) (hN := sc_law_lot.nd) (hi' := rfl) (hy := rfl) (hsw := sw_true rfl rfl rfl rfl) (own := [("one", 12), ("row", 11)]) (fi_zipM (by rfl) T.z_zip (fcs_cons (FE.take (fe_name (pv 8))) (fcs_cons (FE.take (fe_name (pv 0))) fcs_nil))) (blkOk_by (by kernel_rfl)) (fun _ _ _ _ _ => (fg_tup rfl (fgs_cons (fg_name (i := 12) sc_law_lot.nd rfl (by first | exact Or.inl rfl | exact Or.inr rfl)) (fgs_cons (fg_name (i := 11) sc_law_lot.nd rfl (by first | exact Or.inl rfl | exact Or.inr rfl)) fgs_nil)) 2 (bCons_len (bCons_len bNil_len)))) (fun _ _ _ _ _ => fts_nil) (fun _ _ _ _ _ => (FE.take (fe_bin od_add (fe_name (pv 12)) (fe_bin od_mul (fe_name (pv 10)) (fe_ix (fe_name (pv 11)) (fe_name (pv 9)))))))))
    fss_nil)))
    (fss_cons (fs_if (ft_cmp (od_eq (hu65 hr)) (fe_comp (own := [("one", 12), ("full", 13)]) rfl sc_law_lot.nd (fi_zipM (by rfl) T.z_zip (fcs_cons (FE.take (fe_name (pv 6))) (fcs_cons (FE.take (fe_name (pv 8))) fcs_nil))) (blkOk_by (by kernel_rfl)) (fun _ _ _ _ _ => (fg_tup rfl (fgs_cons (fg_name (i := 12) sc_law_lot.nd rfl (by first | exact Or.inl rfl | exact Or.inr rfl)) (fgs_cons (fg_name (i := 13) sc_law_lot.nd rfl (by first | exact Or.inl rfl | exact Or.inr rfl)) fgs_nil)) 2 (bCons_len (bCons_len bNil_len)))) (fun _ _ _ _ _ => (fts_one (ft_cmp od_gt (fe_name (pv 12)) (fe_name (pv 13))))) (fun _ _ _ _ _ => (FE.take fe_int))) (fe_lst fcs_nil)) (fss_cons (fs_expr (fe_append (pv 4) (FE.take (fe_tup (fcs_cons (FE.take (fe_bin od_add (fe_name (pv 5)) (fe_tup (fcs_cons (FE.take (fe_name (pv 7))) fcs_nil)))) (fcs_cons (FE.take (fe_name (pv 6))) fcs_nil))))))
    fss_nil) fss_nil)
    (fss_cons (fs_set (i := 6) sc_law_lot.nd rfl (by first | exact Or.inl rfl | exact Or.inr rfl) (fe_callTy cd_tuple (by rfl) T.z_tuple rfl (fps_cons (fe_comp (own := [("one", 12), ("row", 11)]) rfl sc_law_lot.nd (fi_zipM (by rfl) T.z_zip (fcs_cons (FE.take (fe_name (pv 6))) (fcs_cons (FE.take (fe_name (pv 0))) fcs_nil))) (blkOk_by (by kernel_rfl)) (fun _ _ _ _ _ => (fg_tup rfl (fgs_cons (fg_name (i := 12) sc_law_lot.nd rfl (by first | exact Or.inl rfl | exact Or.inr rfl)) (fgs_cons (fg_name (i := 11) sc_law_lot.nd rfl (by first | exact Or.inl rfl | exact Or.inr rfl)) fgs_nil)) 2 (bCons_len (bCons_len bNil_len)))) (fun _ _ _ _ _ => fts_nil) (fun _ _ _ _ _ => (FE.take (fe_bin od_sub (fe_name (pv 12)) (fe_ix (fe_name (pv 11)) (fe_name (pv 3))))))) fps_nil)))
    (fss_cons (fs_set (i := 7) sc_law_lot.nd rfl (by first | exact Or.inl rfl | exact Or.inr rfl) (fe_bin od_add (fe_name (pv 7)) fe_int))
    fss_nil))))))
    fss_nil)))
    (fss_cons (fs_frz 2 (fs_set (i := 2) sc_law_lot.nd rfl (by first | exact Or.inl rfl | exact Or.inr rfl) (fe_callTy cd_list (by rfl) T.z_list rfl (fps_cons (fe_name (pv 4)) fps_nil))))
    fss_nil))))
    (fss_cons (fs_ret (fe_comp (own := [("counts", 5), ("left", 6)]) rfl sc_law_lot.nd (fi_seq (fe_name (pv 2))) (blkOk_by (by kernel_rfl)) (fun _ _ _ _ _ => (fg_tup rfl (fgs_cons (fg_name (i := 5) sc_law_lot.nd rfl (by first | exact Or.inl rfl | exact Or.inr rfl)) (fgs_cons (fg_name (i := 6) sc_law_lot.nd rfl (by first | exact Or.inl rfl | exact Or.inr rfl)) fgs_nil)) 2 (bCons_len (bCons_len bNil_len)))) (fun _ _ _ _ _ => fts_nil) (fun _ _ _ _ _ => (FE.take (fe_name (pv 5))))))
    fss_nil)))
theorem sc_law_sums : FnScope ["scale", "heap", "row", "weight", "count"] ["scale", "heap"] (defScope s_law_sums) := ⟨rfl, rfl, rfl, by decide +kernel, rfl, by decide +kernel, by decide +kernel⟩
theorem G_law_sums (T : Txt K mg) : FnG P w K mg base 1 T.a_law_sums T.d_law_sums ["scale", "heap"] (spF mg K 2 F_law_sums) := by
  refine fn_data T.F_law_sums sc_law_sums fun cdv A outer s H E hr hg => ?_
  exact (fss_cons (fs_ret (fe_callTy cd_tuple (by rfl) T.z_tuple rfl (fps_cons (fe_comp (own := [("row", 2)]) rfl sc_law_sums.nd (fi_seq (fe_name (pv 0))) (blkOk_by (by kernel_rfl)) (fun _ _ _ _ _ => (fg_name (i := 2) sc_law_sums.nd rfl (by first | exact Or.inl rfl | exact Or.inr rfl))) (fun _ _ _ _ _ => fts_nil) (fun _ _ _ _ _ => (FE.take (fe_callB (cd_sum rfl) (by rfl) T.z_sum rfl (fps_cons (fe_comp (own := [("weight", 3), ("count", 4)]) rfl sc_law_sums.nd (fi_zipM (by rfl) T.z_zip (fcs_cons (FE.take (fe_name (pv 2))) (fcs_cons (FE.take (fe_name (pv 1))) fcs_nil))) (blkOk_by (by kernel_rfl)) (fun _ _ _ _ _ => (fg_tup rfl (fgs_cons (fg_name (i := 3) sc_law_sums.nd rfl (by first | exact Or.inl rfl | exact Or.inr rfl)) (fgs_cons (fg_name (i := 4) sc_law_sums.nd rfl (by first | exact Or.inl rfl | exact Or.inr rfl)) fgs_nil)) 2 (bCons_len (bCons_len bNil_len)))) (fun _ _ _ _ _ => fts_nil) (fun _ _ _ _ _ => (FE.take (fe_bin od_mul (fe_name (pv 3)) (fe_name (pv 4)))))) fps_nil))))) fps_nil)))
    fss_nil)
theorem sc_law_pick : FnScope ["deck", "items"] ["deck", "items"] (defScope s_law_pick) := ⟨rfl, rfl, rfl, by decide +kernel, rfl, by decide +kernel, by decide +kernel⟩
theorem G_law_pick (T : Txt K mg) : FnG P w K mg base 2 T.a_law_pick T.d_law_pick ["deck", "items"] (spF mg K 2 F_law_pick) := by
  refine fn_data T.F_law_pick sc_law_pick fun cdv A outer s H E hr hg => ?_
  exact (fss_cons (fs_ret (fe_ix (fe_name (pv 1)) (fe_call (G_law_draw (P := P) (w := w) (base := base) T) (hr.mono (by decide)) hg (by rfl) T.g_law_draw T.F_law_draw.kp T.b_law_draw (fas_ref (pv 0) (fas_dat (FE.take (fe_callB cd_len (by rfl) T.z_len rfl (fps_cons (fe_name (pv 1)) fps_nil))) fas_nil)))))
    fss_nil)
theorem sc_law_heap : FnScope ["deck", "scale", "most", "heap", "at", "kind"] ["deck", "scale", "most"] (defScope s_law_heap) := ⟨rfl, rfl, rfl, by decide +kernel, rfl, by decide +kernel, by decide +kernel⟩
theorem G_law_heap (T : Txt K mg) : FnG P w K mg base 2 T.a_law_heap T.d_law_heap ["deck", "scale", "most"] (spF mg K 3 F_law_heap) := by
  refine fn_data T.F_law_heap sc_law_heap fun cdv A outer s H E hr hg => ?_
  exact (fss_cons (fs_setLc (i := 3) (hc := rfl) (hN := sc_law_heap.nd) (hi' := rfl) (hy := rfl) (hsw := sw_true rfl rfl rfl rfl) (own := [("kind", 5)]) (fi_seq (fe_ix (fe_name (pv 1)) fe_int)) (blkOk_by (by kernel_rfl)) (fun _ _ _ _ _ => (fg_name (i := 5) sc_law_heap.nd rfl (by first | exact Or.inl rfl | exact Or.inr rfl))) (fun _ _ _ _ _ => fts_nil) (fun _ _ _ _ _ => (FE.take (fe_call (G_law_draw (P := P) (w := w) (base := base) T) (hr.mono (by decide)) hg (by rfl) T.g_law_draw T.F_law_draw.kp T.b_law_draw (fas_ref (pv 0) (fas_dat (FE.take fe_int) fas_nil))))))
    (fss_cons (fs_set (i := 4) sc_law_heap.nd rfl (by first | exact Or.inl rfl | exact Or.inr rfl) fe_int)
    (fss_cons (fs_while (fun _ => FUEL) (ft_lend 3 (ft_cmp od_gt (fe_callB (cd_max1 rfl (hu65 hr)) (by rfl) T.z_max rfl (fps_cons (fe_call (G_law_sums (P := P) (w := w) (base := base) T) (hr.mono (by decide)) hg (by rfl) T.g_law_sums T.F_law_sums.kp T.b_law_sums (fas_dat (FE.take (fe_name (pv 1))) (fas_dat (FE.take (fe_name (pv 3))) fas_nil))) fps_nil)) (fe_name (pv 2)))) (fss_cons (fs_setIx (FE.take (fe_bin od_div (fe_ix (fe_name (pv 3)) (fe_name (pv 4))) fe_int)) (fe_name (pv 3)) (FE.take (fe_name (pv 4))))
    (fss_cons (fs_set (i := 4) sc_law_heap.nd rfl (by first | exact Or.inl rfl | exact Or.inr rfl) (fe_bin od_mod (fe_callTy cd_int (by rfl) T.z_int rfl (fps_cons (fe_bin od_add (fe_name (pv 4)) fe_int) fps_nil)) (fe_callB cd_len (by rfl) T.z_len rfl (fps_cons (fe_name (pv 3)) fps_nil))))
    fss_nil)))
    (fss_cons (fs_ret (fe_callTy cd_tuple (by rfl) T.z_tuple rfl (fps_cons (fe_name (pv 3)) fps_nil)))
    fss_nil))))
theorem sc_law_book : FnScope ["deck", "scale", "many", "found", "most", "turn", "heaps", "one", "other"] ["deck", "scale", "many"] (defScope s_law_book) := ⟨rfl, rfl, rfl, by decide +kernel, rfl, by decide +kernel, by decide +kernel⟩
theorem G_law_book (T : Txt K mg) : FnG P w K mg base 3 T.a_law_book T.d_law_book ["deck", "scale", "many"] (spF mg K 3 F_law_book) := by
  refine fn_data T.F_law_book sc_law_book fun cdv A outer s H E hr hg => ?_
  exact (fss_cons (fs_frz 4 (fs_par (i := 3) (j := 4) rfl sc_law_book.nd rfl rfl (by decide) rfl rfl (fps_cons (fe_lst fcs_nil) (fps_cons (fe_ix (fe_lst (fcs_cons (FE.take fe_int) (fcs_cons (FE.take fe_int) (fcs_cons (FE.take fe_int) (fcs_cons (FE.take fe_int) (fcs_cons (FE.take fe_int) (fcs_cons (FE.take fe_int) fcs_nil))))))) (fe_bin od_sub (fe_callB cd_len (by rfl) T.z_len rfl (fps_cons (fe_ix (fe_name (pv 1)) fe_int) fps_nil)) fe_int)) fps_nil)) rfl))
    (fss_cons (fs_for rfl (fi_range1 (by rfl) T.z_range (fps_cons (fe_name (pv 2)) fps_nil)) (fg_name (i := 5) sc_law_book.nd rfl (by first | exact Or.inl rfl | exact Or.inr rfl)) (fss_cons (fs_frz 6 (fs_set (i := 6) sc_law_book.nd rfl (by first | exact Or.inl rfl | exact Or.inr rfl) (fe_call (G_law_lot (P := P) (w := w) (base := base) T) (hr.mono (by decide)) hg (by rfl) T.g_law_lot T.F_law_lot.kp T.b_law_lot (fas_dat (FE.take (fe_name (pv 1))) (fas_dat (FE.take (fe_call (G_law_sums (P := P) (w := w) (base := base) T) (hr.mono (by decide)) hg (by rfl) T.g_law_sums T.F_law_sums.kp T.b_law_sums (fas_dat (FE.take (fe_name (pv 1))) (fas_dat (FE.take (fe_call (G_law_heap (P := P) (w := w) (base := base) T) (hr.mono (by decide)) hg (by rfl) T.g_law_heap T.F_law_heap.kp T.b_law_heap (fas_ref (pv 0) (fas_dat (FE.take (fe_name (pv 1))) (fas_dat (FE.take (fe_name (pv 4))) fas_nil))))) fas_nil)))) fas_nil)))))
    (fss_cons (fs_frz 8 (fs_frz 7 (fs_par (i := 7) (j := 8) rfl sc_law_book.nd rfl rfl (by decide) rfl rfl (fps_cons (fe_call (G_law_pick (P := P) (w := w) (base := base) T) (hr.mono (by decide)) hg (by rfl) T.g_law_pick T.F_law_pick.kp T.b_law_pick (fas_ref (pv 0) (fas_dat (FE.take (fe_name (pv 6))) fas_nil))) (fps_cons (fe_call (G_law_pick (P := P) (w := w) (base := base) T) (hr.mono (by decide)) hg (by rfl) T.g_law_pick T.F_law_pick.kp T.b_law_pick (fas_ref (pv 0) (fas_dat (FE.take (fe_name (pv 6))) fas_nil))) fps_nil)) rfl)))
    (fss_cons (fs_if (FW.pt (fw_and (ft_cmp (od_ne (hu65 hr)) (fe_name (pv 7)) (fe_name (pv 8))) (fw_and (ft_cmp (od_notIn (hu65 hr)) (fe_tup (fcs_cons (FE.take (fe_name (pv 7))) (fcs_cons (FE.take (fe_name (pv 8))) fcs_nil))) (fe_name (pv 3))) (fw_and1 (ft_cmp (od_notIn (hu65 hr)) (fe_tup (fcs_cons (FE.take (fe_name (pv 8))) (fcs_cons (FE.take (fe_name (pv 7))) fcs_nil))) (fe_name (pv 3))))))) (fss_cons (fs_expr (fe_append (pv 3) (FE.take (fe_tup (fcs_cons (FE.take (fe_name (pv 7))) (fcs_cons (FE.take (fe_name (pv 8))) fcs_nil))))))
    fss_nil) fss_nil)
    fss_nil))))
    (fss_cons (fs_ret (fe_callTy cd_tuple (by rfl) T.z_tuple rfl (fps_cons (fe_name (pv 3)) fps_nil)))
    fss_nil)))
theorem sc_law_sum_row : FnScope ["deck", "scale", "found", "row", "times", "kind", "number", "weight"] ["deck", "scale"] (defScope s_law_sum_row) := ⟨rfl, rfl, rfl, by decide +kernel, rfl, by decide +kernel, by decide +kernel⟩
theorem G_law_sum_row (T : Txt K mg) : FnG P w K mg base 2 T.a_law_sum_row T.d_law_sum_row ["deck", "scale"] (spF mg K 2 F_law_sum_row) := by
  refine fn_data T.F_law_sum_row sc_law_sum_row fun cdv A outer s H E hr hg => ?_
  exact (fss_cons (fs_frz 2 (fs_setLc (i := 2) (hc := rfl) (hN := sc_law_sum_row.nd) (hi' := rfl) (hy := rfl) (hsw := sw_true rfl rfl rfl rfl) (own := [("kind", 5)]) (fi_seq (fe_ix (fe_name (pv 1)) fe_int)) (blkOk_by (by kernel_rfl)) (fun _ _ _ _ _ => (fg_name (i := 5) sc_law_sum_row.nd rfl (by first | exact Or.inl rfl | exact Or.inr rfl))) (fun _ _ _ _ _ => fts_nil) (fun _ _ _ _ _ => (FE.take fe_int))))
    (fss_cons (fs_for rfl (fi_seq (fe_name (pv 1))) (fg_name (i := 3) sc_law_sum_row.nd rfl (by first | exact Or.inl rfl | exact Or.inr rfl)) (fss_cons (fs_set (i := 4) sc_law_sum_row.nd rfl (by first | exact Or.inl rfl | exact Or.inr rfl) (fe_bin od_mul (fe_bin od_sub (fe_call (G_law_draw (P := P) (w := w) (base := base) T) (hr.mono (by decide)) hg (by rfl) T.g_law_draw T.F_law_draw.kp T.b_law_draw (fas_ref (pv 0) (fas_dat (FE.take fe_int) fas_nil))) fe_int) (fe_ix (fe_lst (fcs_cons (FE.take fe_int) (fcs_cons (FE.take fe_int) (fcs_cons (FE.take (fe_bin od_pow fe_int fe_int)) fcs_nil)))) (fe_call (G_law_draw (P := P) (w := w) (base := base) T) (hr.mono (by decide)) hg (by rfl) T.g_law_draw T.F_law_draw.kp T.b_law_draw (fas_ref (pv 0) (fas_dat (FE.take fe_int) fas_nil))))))
    (fss_cons (fs_frz 2 (fs_setLc (i := 2) (hc := rfl) (hN := sc_law_sum_row.nd) (hi' := rfl) (hy := rfl) (hsw := sw_true rfl rfl rfl rfl) (own := [("number", 6), ("weight", 7)]) (fi_zipM (by rfl) T.z_zip (fcs_cons (FE.take (fe_name (pv 2))) (fcs_cons (FE.take (fe_name (pv 3))) fcs_nil))) (blkOk_by (by kernel_rfl)) (fun _ _ _ _ _ => (fg_tup rfl (fgs_cons (fg_name (i := 6) sc_law_sum_row.nd rfl (by first | exact Or.inl rfl | exact Or.inr rfl)) (fgs_cons (fg_name (i := 7) sc_law_sum_row.nd rfl (by first | exact Or.inl rfl | exact Or.inr rfl)) fgs_nil)) 2 (bCons_len (bCons_len bNil_len)))) (fun _ _ _ _ _ => fts_nil) (fun _ _ _ _ _ => (FE.take (fe_bin od_add (fe_name (pv 6)) (fe_bin od_mul (fe_name (pv 4)) (fe_name (pv 7))))))))
    fss_nil)))
    (fss_cons (fs_ret (fe_callTy cd_tuple (by rfl) T.z_tuple rfl (fps_cons (fe_name (pv 2)) fps_nil)))
    fss_nil)))
theorem sc_law_number_row : FnScope ["deck", "kinds", "far", "kind"] ["deck", "kinds"] (defScope s_law_number_row) := ⟨rfl, rfl, rfl, by decide +kernel, rfl, by decide +kernel, by decide +kernel⟩
theorem G_law_number_row (T : Txt K mg) : FnG P w K mg base 2 T.a_law_number_row T.d_law_number_row ["deck", "kinds"] (spF mg K 2 F_law_number_row) := by
  refine fn_data T.F_law_number_row sc_law_number_row fun cdv A outer s H E hr hg => ?_
  exact (fss_cons (fs_frz 2 (fs_set (i := 2) sc_law_number_row.nd rfl (by first | exact Or.inl rfl | exact Or.inr rfl) (fe_ix (fe_lst (fcs_cons (FE.take fe_int) (fcs_cons (FE.take fe_int) (fcs_cons (FE.take (fe_bin od_pow fe_int fe_int)) (fcs_cons (FE.take (fe_bin od_pow fe_int fe_int)) fcs_nil))))) (fe_call (G_law_draw (P := P) (w := w) (base := base) T) (hr.mono (by decide)) hg (by rfl) T.g_law_draw T.F_law_draw.kp T.b_law_draw (fas_ref (pv 0) (fas_dat (FE.take fe_int) fas_nil))))))
    (fss_cons (fs_ret (fe_callTy cd_tuple (by rfl) T.z_tuple rfl (fps_cons (fe_comp (own := [("kind", 3)]) rfl sc_law_number_row.nd (fi_range1 (by rfl) T.z_range (fps_cons (fe_name (pv 1)) fps_nil)) (blkOk_by (by kernel_rfl)) (fun _ _ _ _ _ => (fg_name (i := 3) sc_law_number_row.nd rfl (by first | exact Or.inl rfl | exact Or.inr rfl))) (fun _ _ _ _ _ => fts_nil) (fun _ _ _ _ _ => (FE.take (fe_bin od_sub (fe_bin od_add (fe_bin od_mul (fe_bin od_sub (fe_call (G_law_draw (P := P) (w := w) (base := base) T) (hr.mono (by decide)) hg (by rfl) T.g_law_draw T.F_law_draw.kp T.b_law_draw (fas_ref (pv 0) (fas_dat (FE.take fe_int) fas_nil))) fe_int) (fe_name (pv 2))) (fe_call (G_law_draw (P := P) (w := w) (base := base) T) (hr.mono (by decide)) hg (by rfl) T.g_law_draw T.F_law_draw.kp T.b_law_draw (fas_ref (pv 0) (fas_dat (FE.take fe_int) fas_nil)))) fe_int)))) fps_nil)))
    fss_nil))
theorem sc_law_bent_row : FnScope ["deck", "row", "at"] ["deck", "row"] (defScope s_law_bent_row) := ⟨rfl, rfl, rfl, by decide +kernel, rfl, by decide +kernel, by decide +kernel⟩
theorem G_law_bent_row (T : Txt K mg) : FnG P w K mg base 2 T.a_law_bent_row T.d_law_bent_row ["deck", "row"] (spF mg K 2 F_law_bent_row) := by
  refine fn_data T.F_law_bent_row sc_law_bent_row fun cdv A outer s H E hr hg => ?_
  exact (fss_cons (fs_frz 2 (fs_set (i := 2) sc_law_bent_row.nd rfl (by first | exact Or.inl rfl | exact Or.inr rfl) (fe_call (G_law_draw (P := P) (w := w) (base := base) T) (hr.mono (by decide)) hg (by rfl) T.g_law_draw T.F_law_draw.kp T.b_law_draw (fas_ref (pv 0) (fas_dat (FE.take (fe_callB cd_len (by rfl) T.z_len rfl (fps_cons (fe_name (pv 1)) fps_nil))) fas_nil)))))
    (fss_cons (fs_ret (fe_bin od_add (fe_bin od_add (fe_slice (fe_name (pv 1)) fo_none (fo_some (fe_name (pv 2)))) (fe_tup (fcs_cons (FE.take (fe_bin od_add (fe_ix (fe_name (pv 1)) (fe_name (pv 2))) (fe_ix (fe_lst (fcs_cons (FE.take fe_int) (fcs_cons (FE.take (fe_neg fe_int)) fcs_nil))) (fe_call (G_law_draw (P := P) (w := w) (base := base) T) (hr.mono (by decide)) hg (by rfl) T.g_law_draw T.F_law_draw.kp T.b_law_draw (fas_ref (pv 0) (fas_dat (FE.take fe_int) fas_nil)))))) fcs_nil))) (fe_slice (fe_name (pv 1)) (fo_some (fe_bin od_add (fe_name (pv 2)) fe_int)) fo_none)))
    fss_nil))
theorem sc_sum_by : FnScope ["row", "heap", "number", "count"] ["row", "heap"] (defScope s_sum_by) := ⟨rfl, rfl, rfl, by decide +kernel, rfl, by decide +kernel, by decide +kernel⟩
theorem G_sum_by (T : Txt K mg) : FnG P w K mg base 1 T.a_sum_by T.d_sum_by ["row", "heap"] (spF mg K 2 F_sum_by) := by
  refine fn_data T.F_sum_by sc_sum_by fun cdv A outer s H E hr hg => ?_
  exact (fss_cons (fs_ret (fe_callB (cd_sum rfl) (by rfl) T.z_sum rfl (fps_cons (fe_comp (own := [("number", 2), ("count", 3)]) rfl sc_sum_by.nd (fi_zipM (by rfl) T.z_zip (fcs_cons (FE.take (fe_name (pv 0))) (fcs_cons (FE.take (fe_name (pv 1))) fcs_nil))) (blkOk_by (by kernel_rfl)) (fun _ _ _ _ _ => (fg_tup rfl (fgs_cons (fg_name (i := 2) sc_sum_by.nd rfl (by first | exact Or.inl rfl | exact Or.inr rfl)) (fgs_cons (fg_name (i := 3) sc_sum_by.nd rfl (by first | exact Or.inl rfl | exact Or.inr rfl)) fgs_nil)) 2 (bCons_len (bCons_len bNil_len)))) (fun _ _ _ _ _ => fts_nil) (fun _ _ _ _ _ => (FE.take (fe_bin od_mul (fe_name (pv 2)) (fe_name (pv 3)))))) fps_nil)))
    fss_nil)
theorem sc_changes_of_book : FnScope ["book", "take", "put", "less", "more"] ["book"] (defScope s_changes_of_book) := ⟨rfl, rfl, rfl, by decide +kernel, rfl, by decide +kernel, by decide +kernel⟩
theorem G_changes_of_book (T : Txt K mg) : FnG P w K mg base 1 T.a_changes_of_book T.d_changes_of_book ["book"] (spF mg K 1 F_changes_of_book) := by
  refine fn_data T.F_changes_of_book sc_changes_of_book fun cdv A outer s H E hr hg => ?_
  exact (fss_cons (fs_ret (fe_comp (own := [("take", 1), ("put", 2)]) rfl sc_changes_of_book.nd (fi_seq (fe_name (pv 0))) (blkOk_by (by kernel_rfl)) (fun _ _ _ _ _ => (fg_tup rfl (fgs_cons (fg_name (i := 1) sc_changes_of_book.nd rfl (by first | exact Or.inl rfl | exact Or.inr rfl)) (fgs_cons (fg_name (i := 2) sc_changes_of_book.nd rfl (by first | exact Or.inl rfl | exact Or.inr rfl)) fgs_nil)) 2 (bCons_len (bCons_len bNil_len)))) (fun _ _ _ _ _ => fts_nil) (fun _ _ _ _ _ => (FE.take (fe_callTy cd_tuple (by rfl) T.z_tuple rfl (fps_cons (fe_comp (own := [("less", 3), ("more", 4)]) rfl sc_changes_of_book.nd (fi_zipM (by rfl) T.z_zip (fcs_cons (FE.take (fe_name (pv 1))) (fcs_cons (FE.take (fe_name (pv 2))) fcs_nil))) (blkOk_by (by kernel_rfl)) (fun _ _ _ _ _ => (fg_tup rfl (fgs_cons (fg_name (i := 3) sc_changes_of_book.nd rfl (by first | exact Or.inl rfl | exact Or.inr rfl)) (fgs_cons (fg_name (i := 4) sc_changes_of_book.nd rfl (by first | exact Or.inl rfl | exact Or.inr rfl)) fgs_nil)) 2 (bCons_len (bCons_len bNil_len)))) (fun _ _ _ _ _ => fts_nil) (fun _ _ _ _ _ => (FE.take (fe_bin od_sub (fe_name (pv 4)) (fe_name (pv 3)))))) fps_nil))))))
    fss_nil)
theorem sc_is_kept : FnScope ["book", "row", "change"] ["book", "row"] (defScope s_is_kept) := ⟨rfl, rfl, rfl, by decide +kernel, rfl, by decide +kernel, by decide +kernel⟩
theorem G_is_kept (T : Txt K mg) : FnG P w K mg base 2 T.a_is_kept T.d_is_kept ["book", "row"] (spF mg K 2 F_is_kept) := by
  refine fn_data T.F_is_kept sc_is_kept fun cdv A outer s H E hr hg => ?_
  exact (fss_cons (fs_ret (fe_callB (cd_all rfl) (by rfl) T.z_all rfl (fps_cons (fe_comp (own := [("change", 2)]) rfl sc_is_kept.nd (fi_seq (fe_call (G_changes_of_book (P := P) (w := w) (base := base) T) (hr.mono (by decide)) hg (by rfl) T.g_changes_of_book T.F_changes_of_book.kp T.b_changes_of_book (fas_dat (FE.take (fe_name (pv 0))) fas_nil))) (blkOk_by (by kernel_rfl)) (fun _ _ _ _ _ => (fg_name (i := 2) sc_is_kept.nd rfl (by first | exact Or.inl rfl | exact Or.inr rfl))) (fun _ _ _ _ _ => fts_nil) (fun _ _ _ _ _ => (FE.take (fe_cmp (od_eq (hu65 hr)) (fe_call (G_sum_by (P := P) (w := w) (base := base) T) (hr.mono (by decide)) hg (by rfl) T.g_sum_by T.F_sum_by.kp T.b_sum_by (fas_dat (FE.take (fe_name (pv 1))) (fas_dat (FE.take (fe_name (pv 2))) fas_nil))) fe_int)))) fps_nil)))
    fss_nil)
theorem sc_law_dot : FnScope ["row", "heap", "number", "count"] ["row", "heap"] (defScope s_law_dot) := ⟨rfl, rfl, rfl, by decide +kernel, rfl, by decide +kernel, by decide +kernel⟩
theorem G_law_dot (T : Txt K mg) : FnG P w K mg base 1 T.a_law_dot T.d_law_dot ["row", "heap"] (spF mg K 2 F_law_dot) := by
  refine fn_data T.F_law_dot sc_law_dot fun cdv A outer s H E hr hg => ?_
  exact (fss_cons (fs_ret (fe_callB (cd_sum rfl) (by rfl) T.z_sum rfl (fps_cons (fe_comp (own := [("number", 2), ("count", 3)]) rfl sc_law_dot.nd (fi_zipM (by rfl) T.z_zip (fcs_cons (FE.take (fe_name (pv 0))) (fcs_cons (FE.take (fe_name (pv 1))) fcs_nil))) (blkOk_by (by kernel_rfl)) (fun _ _ _ _ _ => (fg_tup rfl (fgs_cons (fg_name (i := 2) sc_law_dot.nd rfl (by first | exact Or.inl rfl | exact Or.inr rfl)) (fgs_cons (fg_name (i := 3) sc_law_dot.nd rfl (by first | exact Or.inl rfl | exact Or.inr rfl)) fgs_nil)) 2 (bCons_len (bCons_len bNil_len)))) (fun _ _ _ _ _ => fts_nil) (fun _ _ _ _ _ => (FE.take (fe_bin od_mul (fe_name (pv 2)) (fe_name (pv 3)))))) fps_nil)))
    fss_nil)
theorem sc_law_keeps : FnScope ["book", "row", "take", "put"] ["book", "row"] (defScope s_law_keeps) := ⟨rfl, rfl, rfl, by decide +kernel, rfl, by decide +kernel, by decide +kernel⟩
theorem G_law_keeps (T : Txt K mg) : FnG P w K mg base 2 T.a_law_keeps T.d_law_keeps ["book", "row"] (spF mg K 2 F_law_keeps) := by
  refine fn_data T.F_law_keeps sc_law_keeps fun cdv A outer s H E hr hg => ?_
  exact (fss_cons (fs_ret (fe_cmp (od_eq (hu65 hr)) (fe_comp (own := [("take", 2), ("put", 3)]) rfl sc_law_keeps.nd (fi_seq (fe_name (pv 0))) (blkOk_by (by kernel_rfl)) (fun _ _ _ _ _ => (fg_tup rfl (fgs_cons (fg_name (i := 2) sc_law_keeps.nd rfl (by first | exact Or.inl rfl | exact Or.inr rfl)) (fgs_cons (fg_name (i := 3) sc_law_keeps.nd rfl (by first | exact Or.inl rfl | exact Or.inr rfl)) fgs_nil)) 2 (bCons_len (bCons_len bNil_len)))) (fun _ _ _ _ _ => (fts_one (ft_cmp (od_ne (hu65 hr)) (fe_call (G_law_dot (P := P) (w := w) (base := base) T) (hr.mono (by decide)) hg (by rfl) T.g_law_dot T.F_law_dot.kp T.b_law_dot (fas_dat (FE.take (fe_name (pv 1))) (fas_dat (FE.take (fe_name (pv 2))) fas_nil))) (fe_call (G_law_dot (P := P) (w := w) (base := base) T) (hr.mono (by decide)) hg (by rfl) T.g_law_dot T.F_law_dot.kp T.b_law_dot (fas_dat (FE.take (fe_name (pv 1))) (fas_dat (FE.take (fe_name (pv 3))) fas_nil)))))) (fun _ _ _ _ _ => (FE.take fe_int))) (fe_lst fcs_nil)))
    fss_nil)
theorem sc_law : FnScope ["script", "deck", "turn", "scale", "book", "rows", "row", "shown", "kind"] ["script"] (defScope s_law) := ⟨rfl, rfl, rfl, by decide +kernel, rfl, by decide +kernel, by decide +kernel⟩
theorem G_law (T : Txt K mg) : FnG P w K mg base 4 T.a_law T.d_law ["script"] (spF mg K 1 F_law) := by
  refine fn_data T.F_law sc_law fun cdv A outer s H E hr hg => ?_
  exact (fss_cons (fs_set (i := 1) sc_law.nd rfl (by first | exact Or.inl rfl | exact Or.inr rfl) (fe_call (G_law_deck (P := P) (w := w) (base := base) T) (hr.mono (by decide)) hg (by rfl) T.g_law_deck T.F_law_deck.kp T.b_law_deck (fas_dat (FE.take (fe_name (pv 0))) fas_nil)))
    (fss_cons (fs_for rfl (fi_range1 (by rfl) T.z_range (fps_cons fe_int fps_nil)) (fg_name (i := 2) sc_law.nd rfl (by first | exact Or.inl rfl | exact Or.inr rfl)) (fss_cons (fs_frz 3 (fs_set (i := 3) sc_law.nd rfl (by first | exact Or.inl rfl | exact Or.inr rfl) (fe_call (G_law_scale (P := P) (w := w) (base := base) T) (hr.mono (by decide)) hg (by rfl) T.g_law_scale T.F_law_scale.kp T.b_law_scale (fas_ref (pv 1) fas_nil))))
    (fss_cons (fs_frz 4 (fs_set (i := 4) sc_law.nd rfl (by first | exact Or.inl rfl | exact Or.inr rfl) (fe_call (G_law_book (P := P) (w := w) (base := base) T) (hr.mono (by decide)) hg (by rfl) T.g_law_book T.F_law_book.kp T.b_law_book (fas_ref (pv 1) (fas_dat (FE.take (fe_name (pv 3))) (fas_dat (FE.take (fe_call (G_law_draw (P := P) (w := w) (base := base) T) (hr.mono (by decide)) hg (by rfl) T.g_law_draw T.F_law_draw.kp T.b_law_draw (fas_ref (pv 1) (fas_dat (FE.take fe_int) fas_nil)))) fas_nil))))))
    (fss_cons (fs_frz 5 (fs_set (i := 5) sc_law.nd rfl (by first | exact Or.inl rfl | exact Or.inr rfl) (fe_lst (fcs_cons (FE.take (fe_call (G_law_sum_row (P := P) (w := w) (base := base) T) (hr.mono (by decide)) hg (by rfl) T.g_law_sum_row T.F_law_sum_row.kp T.b_law_sum_row (fas_ref (pv 1) (fas_dat (FE.take (fe_name (pv 3))) fas_nil)))) (fcs_cons (FE.take (fe_call (G_law_number_row (P := P) (w := w) (base := base) T) (hr.mono (by decide)) hg (by rfl) T.g_law_number_row T.F_law_number_row.kp T.b_law_number_row (fas_ref (pv 1) (fas_dat (FE.take (fe_callB cd_len (by rfl) T.z_len rfl (fps_cons (fe_ix (fe_name (pv 3)) fe_int) fps_nil))) fas_nil)))) (fcs_cons (FE.take (fe_callTy cd_tuple (by rfl) T.z_tuple rfl (fps_cons (fe_comp (own := [("kind", 8)]) rfl sc_law.nd (fi_seq (fe_ix (fe_name (pv 3)) fe_int)) (blkOk_by (by kernel_rfl)) (fun _ _ _ _ _ => (fg_name (i := 8) sc_law.nd rfl (by first | exact Or.inl rfl | exact Or.inr rfl))) (fun _ _ _ _ _ => fts_nil) (fun _ _ _ _ _ => (FE.take fe_int))) fps_nil))) fcs_nil))))))
    (fss_cons (fs_frz 5 (fs_set (i := 5) sc_law.nd rfl (by first | exact Or.inl rfl | exact Or.inr rfl) (fe_bin od_add (fe_name (pv 5)) (fe_lst (fcs_cons (FE.take (fe_call (G_law_bent_row (P := P) (w := w) (base := base) T) (hr.mono (by decide)) hg (by rfl) T.g_law_bent_row T.F_law_bent_row.kp T.b_law_bent_row (fas_ref (pv 1) (fas_dat (FE.take (fe_ix (fe_name (pv 5)) fe_int)) fas_nil)))) (fcs_cons (FE.take (fe_call (G_law_bent_row (P := P) (w := w) (base := base) T) (hr.mono (by decide)) hg (by rfl) T.g_law_bent_row T.F_law_bent_row.kp T.b_law_bent_row (fas_ref (pv 1) (fas_dat (FE.take (fe_ix (fe_name (pv 5)) fe_int)) fas_nil)))) (fcs_cons (FE.take (fe_ix (fe_name (pv 3)) (fe_call (G_law_draw (P := P) (w := w) (base := base) T) (hr.mono (by decide)) hg (by rfl) T.g_law_draw T.F_law_draw.kp T.b_law_draw (fas_ref (pv 1) (fas_dat (FE.take (fe_callB cd_len (by rfl) T.z_len rfl (fps_cons (fe_name (pv 3)) fps_nil))) fas_nil))))) fcs_nil)))))))
    (fss_cons (fs_for rfl (fi_seq (fe_name (pv 5))) (fg_name (i := 6) sc_law.nd rfl (by first | exact Or.inl rfl | exact Or.inr rfl)) (fss_cons (fs_set (i := 7) sc_law.nd rfl (by first | exact Or.inl rfl | exact Or.inr rfl) (fe_callB (cd_reprA hg (hu65 hr)) (by rfl) T.z_repr rfl (fps_cons (fe_tup (fcs_cons (FE.take (fe_name (pv 4))) (fcs_cons (FE.take (fe_name (pv 6))) fcs_nil))) fps_nil)))
    (fss_cons (fs_if (FW.pt (fw_or (ft_cmp (od_ne (hu65 hr)) (fe_callB (cd_reprA hg (hu65 hr)) (by rfl) T.z_repr rfl (fps_cons (fe_call (G_is_kept (P := P) (w := w) (base := base) T) (hr.mono (by decide)) hg (by rfl) T.g_is_kept T.F_is_kept.kp T.b_is_kept (fas_dat (FE.take (fe_name (pv 4))) (fas_dat (FE.take (fe_name (pv 6))) fas_nil))) fps_nil)) (fe_callB (cd_reprA hg (hu65 hr)) (by rfl) T.z_repr rfl (fps_cons (fe_call (G_law_keeps (P := P) (w := w) (base := base) T) (hr.mono (by decide)) hg (by rfl) T.g_law_keeps T.F_law_keeps.kp T.b_law_keeps (fas_dat (FE.take (fe_name (pv 4))) (fas_dat (FE.take (fe_name (pv 6))) fas_nil))) fps_nil))) (fw_or1 (ft_cmp (od_ne (hu65 hr)) (fe_callB (cd_reprA hg (hu65 hr)) (by rfl) T.z_repr rfl (fps_cons (fe_tup (fcs_cons (FE.take (fe_name (pv 4))) (fcs_cons (FE.take (fe_name (pv 6))) fcs_nil))) fps_nil)) (fe_name (pv 7)))))) (fss_cons (fs_ret fe_bl)
    fss_nil) fss_nil)
    (fss_cons (fs_if (FW.pt (fw_or (ft_cmp (od_ne (hu65 hr)) (fe_callB (cd_reprA hg (hu65 hr)) (by rfl) T.z_repr rfl (fps_cons (fe_call (G_is_kept (P := P) (w := w) (base := base) T) (hr.mono (by decide)) hg (by rfl) T.g_is_kept T.F_is_kept.kp T.b_is_kept (fas_dat (FE.take (fe_tup fcs_nil)) (fas_dat (FE.take (fe_name (pv 6))) fas_nil))) fps_nil)) fe_str) (fw_or1 (ft_cmp (od_ne (hu65 hr)) (fe_callB (cd_reprA hg (hu65 hr)) (by rfl) T.z_repr rfl (fps_cons (fe_call (G_is_kept (P := P) (w := w) (base := base) T) (hr.mono (by decide)) hg (by rfl) T.g_is_kept T.F_is_kept.kp T.b_is_kept (fas_dat (FE.take (fe_name (pv 4))) (fas_dat (FE.take (fe_name (pv 6))) fas_nil))) fps_nil)) (fe_callB (cd_reprA hg (hu65 hr)) (by rfl) T.z_repr rfl (fps_cons (fe_call (G_law_keeps (P := P) (w := w) (base := base) T) (hr.mono (by decide)) hg (by rfl) T.g_law_keeps T.F_law_keeps.kp T.b_law_keeps (fas_dat (FE.take (fe_name (pv 4))) (fas_dat (FE.take (fe_name (pv 6))) fas_nil))) fps_nil)))))) (fss_cons (fs_ret fe_bl)
    fss_nil) fss_nil)
    fss_nil))))
    fss_nil))))))
    (fss_cons (fs_ret fe_bl)
    fss_nil)))
end
end BH.K20

set_option maxRecDepth 100000
set_option maxHeartbeats 1000000
namespace BH.K20
open PySem PySem.Spec PyProof.Rows L2
theorem dot_ok {r h : List Int} (hr : r.length ≤ 1000) (hh : ∀ z ∈ h, z.natAbs < 2 ^ 63) : compP (fun (a1 : Int × Int) => mulM a1.1 a1.2 >>= fun mul2 => .ok (some mul2)) (List.zip r h) = .ok ((List.zip r h).map fun p => p.1 * p.2) := by
  refine compP_map (fun p : Int × Int => p.1 * p.2) (fun p hp => ?_) (by rw [List.length_zip]; unfold lim; omega)
  have := hh p.2 (List.of_mem_zip hp).2
  rw [mulM_r (by omega) (by omega)]; rfl
def Pr (q : List Int × List Int) (kd : Nat) : Prop := q.1.length = kd ∧ q.2.length = kd ∧ (∀ z ∈ q.1, 0 ≤ z ∧ z ≤ 40) ∧ (∀ z ∈ q.2, 0 ≤ z ∧ z ≤ 40)
def chg (q : List Int × List Int) : List Int := (List.zip q.1 q.2).map fun p => p.2 - p.1
theorem chg_small {q : List Int × List Int} {kd : Nat} (h : Pr q kd) : ∀ z ∈ chg q, z.natAbs < 2 ^ 63 := by
  intro z hz
  obtain ⟨p, hp, rfl⟩ := List.mem_map.mp hz
  have h1 := h.2.2.1 _ (List.of_mem_zip hp).1
  have h2 := h.2.2.2 _ (List.of_mem_zip hp).2
  omega
theorem dot_chg : ∀ (r a b : List Int), a.length = r.length → b.length = r.length → dotZ r (chg (a, b)) = dotZ r b - dotZ r a
  | [], a, b, _, _ => by simp [dotZ]
  | x :: r, y :: a, z :: b, h1, h2 => by
    have := dot_chg r a b (by simpa using h1) (by simpa using h2)
    have e : chg (y :: a, z :: b) = (z - y) :: chg (a, b) := rfl
    rw [e, dot_cons, dot_cons, dot_cons, this, Int.mul_sub]; omega
  | _ :: _, [], _, h, _ => by simp at h
  | _ :: _, _ :: _, [], _, h => by simp at h
/-- whether a row is kept -/
def keptZ (book : List (List Int × List Int)) (row : List Int) : Bool := book.all fun q => decide (dotZ row q.1 = dotZ row q.2)
theorem kept_ok {book : List (List Int × List Int)} {row : List Int} {kd : Nat} (hb : ∀ q ∈ book, Pr q kd) (hr : row.length = kd) (hk : kd ≤ 6) (hl : book.length ≤ 100) : S_is_kept book row = .ok (keptZ book row) := by
  unfold S_is_kept
  have e1 : S_changes_of_book book = .ok (book.map chg) := by
    unfold S_changes_of_book
    rw [compP_map chg (fun q hq => ?_) (by unfold lim; omega)]
    · rfl
    · rw [lenG_ok (by rw [List.length_map, List.length_zip]; have := (hb q hq).1; unfold lim; omega)]; rfl
  rw [e1, M.ok_bind, compP_map (fun c => eqD (dotZ row c) 0) (fun c hc => ?_) (by rw [List.length_map]; unfold lim; omega), M.ok_bind]
  · congr 1
    unfold keptZ
    rw [List.map_map, List.all_map, Bool.eq_iff_iff, List.all_eq_true, List.all_eq_true]
    refine forall_congr' fun q => forall_congr' fun hq => ?_
    obtain ⟨h1, h2, _, _⟩ := hb q hq
    have := dot_chg row q.1 q.2 (by omega) (by omega)
    simp only [Function.comp, id, eqD_true, decide_eq_true_eq]
    rw [this]; omega
  · obtain ⟨q, hq, rfl⟩ := List.mem_map.mp hc
    unfold S_sum_by
    rw [dot_ok (by omega) (chg_small (hb q hq))]
    rfl
theorem keeps_ok {book : List (List Int × List Int)} {row : List Int} {kd : Nat} (hb : ∀ q ∈ book, Pr q kd) (hr : row.length = kd) (hk : kd ≤ 6) (hl : book.length ≤ 100) : S_law_keeps book row = .ok (keptZ book row) := by
  unfold S_law_keeps
  have sm : ∀ h : List Int, (∀ z ∈ h, 0 ≤ z ∧ z ≤ 40) → S_law_dot row h = .ok (dotZ row h) := fun h hh => by
    unfold S_law_dot
    rw [dot_ok (by omega) (fun z hz => by have := hh z hz; omega)]; rfl
  rw [compP_ok (fun q : List Int × List Int => if (!eqD (dotZ row q.1) (dotZ row q.2)) = true then some (1 : Int) else none) (fun q hq => ?_) (Nat.le_trans (List.length_filterMap_le _ _) (by unfold lim; omega)), M.ok_bind]
  · congr 1
    unfold keptZ
    rw [Bool.eq_iff_iff, eqD_true, List.all_eq_true, List.filterMap_eq_nil_iff]
    refine forall_congr' fun q => forall_congr' fun hq => ?_
    by_cases e : dotZ row q.1 = dotZ row q.2
    · simp [e]
    · simp [e, eqD]
  · obtain ⟨_, _, h3, h4⟩ := hb q hq
    rw [sm q.1 h3, M.ok_bind, sm q.2 h4, M.ok_bind]
    split <;> rfl
def RowOk (kd : Nat) (b : Nat) (row : List Int) : Prop := row.length = kd ∧ ∀ z ∈ row, z.natAbs ≤ b
theorem RowOk.mono {kd b b' : Nat} {row : List Int} (h : RowOk kd b row) (hb : b ≤ b') : RowOk kd b' row := ⟨h.1, fun z hz => Nat.le_trans (h.2 z hz) hb⟩
theorem sum_row_ok {W : List (List Int)} {kd : Nat} {d : List Int} (hW : Sc W kd) (hd : Dk d) : Ok (S_law_sum_row d W) fun p => RowOk kd (10 ^ 40) p.1 ∧ Dk p.2 := by
  unfold S_law_sum_row
  obtain ⟨r0, e0, hr0⟩ := hW.hd
  have k6 := hW.k6
  have hl := hW.len
  rw [e0, M.ok_bind, lenG_ok (by rw [List.length_map, hr0]; unfold lim; omega), M.ok_bind]
  refine ok_bind (ok_for (fun i (s : List Int × List Int) => Dk s.1 ∧ RowOk kd (i * (24 * 10 ^ 30)) s.2) _ 0 (fun i r s hi hs => ?_) _ ⟨hd, by simp [hr0], fun z hz => ?_⟩) fun s hs => ok_ret ⟨hs.2.mono ?_, hs.1⟩
  · obtain ⟨s1, s2⟩ := hs
    have hr : r ∈ W := List.mem_of_getElem? hi
    have hlr := (hW.mat r hr)
    refine ok_bind (draw_ok s1 (by omega) (by omega)) fun r8 h8 => ?_
    refine ok_bind (draw_ok h8.2.2 (by omega) (by omega)) fun r9 h9 => ?_
    refine ok_bind (P := fun f : Int => 1 ≤ f ∧ f ≤ 10 ^ 30) (ok_imp (ok_ix h9.1 (by simpa using h9.2.1)) fun f hf => ?_) fun f hf => ?_
    · have := hf.1
      simp only [List.mem_cons, List.not_mem_nil, or_false] at this
      rcases this with rfl | rfl | rfl <;> decide
    · rw [mulM_l (by omega) (by omega), M.ok_bind]
      rw [compP_map (fun a : Int × Int => a.1 + (r8.1 - 4) * f * a.2) (fun a ha => ?_) (by rw [List.length_zip, s2.1]; unfold lim; omega), M.ok_bind]
      · refine ok_ret ⟨h9.2.2, ?_, fun z hz => ?_⟩
        · rw [List.length_map, List.length_zip, s2.1, hlr.1]; exact Nat.min_self _
        · obtain ⟨p, hp, rfl⟩ := List.mem_map.mp hz
          have h1 := s2.2 _ (List.of_mem_zip hp).1
          have h2 := hlr.2 _ (List.of_mem_zip hp).2
          have h3 : ((r8.1 - 4) * f * p.2).natAbs ≤ 4 * 10 ^ 30 * 6 := by
            rw [Int.natAbs_mul, Int.natAbs_mul]
            exact Nat.mul_le_mul (Nat.mul_le_mul (by omega) (by omega)) (by omega)
          have e : (0 + i + 1) * (24 * 10 ^ 30) = (0 + i) * (24 * 10 ^ 30) + 24 * 10 ^ 30 := by rw [Nat.add_mul, Nat.one_mul]
          rw [e]
          have h4 := Int.natAbs_add_le p.1 ((r8.1 - 4) * f * p.2)
          omega
      · have h2 := hlr.2 _ (List.of_mem_zip ha).2
        rw [mulM_r (by omega) (by omega)]; rfl
  · obtain ⟨_, _, rfl⟩ := List.mem_map.mp hz
    simp
  · have : (0 + W.length) * (24 * 10 ^ 30) ≤ 6 * (24 * 10 ^ 30) := Nat.mul_le_mul_right _ (by omega)
    exact Nat.le_trans this (by decide)
theorem number_row_ok {kd : Nat} {d : List Int} (hd : Dk d) (hk : kd ≤ 6) : Ok (S_law_number_row d (kd : Int)) fun p => RowOk kd (10 ^ 40) p.1 ∧ Dk p.2 := by
  unfold S_law_number_row
  refine ok_bind (draw_ok hd (by omega) (by omega)) fun r1 h1 => ?_
  refine ok_bind (P := fun f : Int => 1 ≤ f ∧ f ≤ 10 ^ 36) (ok_imp (ok_ix h1.1 (by simpa using h1.2.1)) fun f hf => ?_) fun f hf => ?_
  · have := hf.1
    simp only [List.mem_cons, List.not_mem_nil, or_false] at this
    rcases this with rfl | rfl | rfl | rfl <;> decide
  · rw [range1M_ok (by omega), M.ok_bind]
    refine ok_bind (ok_compS Dk (fun z : Int => z.natAbs ≤ 10 ^ 40) (fun a s _ hs => ?_) h1.2.2 (by simp [lim]; omega)) fun p hp => ok_ret ⟨⟨by rw [hp.1]; simp, hp.2.1⟩, hp.2.2⟩
    refine ok_bind (draw_ok hs (by omega) (by omega)) fun r6 h6 => ?_
    rw [mulM_l (by omega) (by omega), M.ok_bind]
    refine ok_bind (draw_ok h6.2.2 (by omega) (by omega)) fun r8 h8 => ok_ret ⟨⟨_, rfl, ?_⟩, h8.2.2⟩
    have h3 : ((r6.1 - 6) * f).natAbs ≤ 6 * 10 ^ 36 := by
      rw [Int.natAbs_mul]
      exact Nat.mul_le_mul (by omega) (by omega)
    have : (6 * 10 ^ 36 : Nat) + 3 ≤ 10 ^ 40 := by decide
    omega
theorem bent_row_ok {kd b : Nat} {d row : List Int} (hd : Dk d) (h1 : 1 ≤ kd) (hk : kd ≤ 6) (hr : RowOk kd b row) : Ok (S_law_bent_row d row) fun p => RowOk kd (b + 1) p.1 ∧ Dk p.2 := by
  unfold S_law_bent_row
  have hl := hr.1
  refine ok_bind (draw_ok hd (by omega) (by omega)) fun r1 h1' => ?_
  obtain ⟨k, ek⟩ := Int.eq_ofNat_of_zero_le h1'.1
  rw [ek]
  have hk2 : k < row.length := by omega
  obtain ⟨x, hx, hx2⟩ := get_of hk2
  rw [ixM_nat hx, M.ok_bind]
  refine ok_bind (draw_ok h1'.2.2 (by omega) (by omega)) fun r3 h3 => ?_
  refine ok_bind (P := fun f : Int => f = 1 ∨ f = -1) (ok_imp (ok_ix h3.1 (by simpa using h3.2.1)) fun f hf => ?_) fun f hf => ?_
  · have := hf.1
    simpa using this
  · have ec : ((k : Int) + 1) = ((k + 1 : Nat) : Int) := by omega
    rw [ec, cutD_take, cutD_drop, lenG_ok (by simp [lim]; omega), M.ok_bind, lenG_ok (by simp [lim]; omega), M.ok_bind]
    refine ok_ret ⟨⟨by simp; omega, fun z hz => ?_⟩, h3.2.2⟩
    rcases List.mem_append.mp hz with hz | hz
    · rcases List.mem_append.mp hz with hz | hz
      · have := hr.2 z (List.mem_of_mem_take hz); omega
      · rw [List.mem_singleton] at hz
        have := hr.2 x hx2
        omega
    · have := hr.2 z (List.mem_of_mem_drop hz); omega
theorem law_ok (ns : List Int) : S_law ns = .ok true := by
  refine ok_eq' ?_
  unfold S_law
  refine ok_bind (deck_ok ns) fun d hd => ?_
  refine ok_bind (ok_forT Dk (fun a s _ hs => ?_) hd) fun l hl => ?_
  · refine ok_bind (scale_ok hs) fun r10 h10 => ?_
    obtain ⟨⟨kd, hW⟩, hd10⟩ := h10
    have k6 := hW.k6
    have k1 := hW.k1
    refine ok_bind (draw_ok hd10 (by omega) (by omega)) fun r11 h11 => ?_
    obtain ⟨many, em⟩ := Int.eq_ofNat_of_zero_le h11.1
    rw [em]
    refine ok_bind (book_ok hW h11.2.2 (by omega)) fun r12 h12 => ?_
    obtain ⟨hb1, hb2, _, hd12⟩ := h12
    have hb : ∀ q ∈ r12.1, Pr q kd := fun q hq => by
      obtain ⟨⟨sums, g1, g2, g3⟩, _⟩ := hb1 q hq
      have m := (most_ok hW.k1 hW.k6).2.1
      exact ⟨g1.len, g2.len, fun z hz => ⟨g1.nn z hz, by have := sol_le hW.wt g3 g1 z hz; omega⟩, fun z hz => ⟨g2.nn z hz, by have := sol_le hW.wt g3 g2 z hz; omega⟩⟩
    refine ok_bind (sum_row_ok hW hd12) fun r13 h13 => ?_
    obtain ⟨r0, e0, hr0⟩ := hW.hd
    rw [e0, M.ok_bind, hr0]
    refine ok_bind (number_row_ok h13.2 k6) fun r15 h15 => ?_
    rw [M.ok_bind, lenG_ok (by rw [List.length_map, hr0]; unfold lim; omega), M.ok_bind]
    have i0 : ∀ a b c : List Int, ixM [a, b, c] 0 = .ok a := fun _ _ _ => ixM_zero
    have i2 : ∀ a b c : List Int, ixM [a, b, c] 2 = .ok c := fun _ _ _ => ixM_int (by decide) rfl
    rw [i0, M.ok_bind]
    have hz : RowOk kd 0 (List.map (fun (_ : Int) => (0 : Int)) r0) := ⟨by rw [List.length_map, hr0], fun z hz => by obtain ⟨_, _, rfl⟩ := List.mem_map.mp hz; simp⟩
    refine ok_bind (bent_row_ok h15.2 k1 k6 h13.1) fun r20 h20 => ?_
    rw [i2, M.ok_bind]
    refine ok_bind (bent_row_ok h20.2 k1 k6 hz) fun r22 h22 => ?_
    have hlW := hW.len
    have hneW : 0 < r10.1.length := List.length_pos_iff.mpr hW.ne
    refine ok_bind (draw_ok h22.2 (by omega) (by omega)) fun r23 h23 => ?_
    refine ok_bind (ok_ix h23.1 h23.2.1) fun it24 h24 => ?_
    have hsc : RowOk kd 6 it24 := ⟨(hW.mat it24 h24.1).1, fun z hz => by have := (hW.mat it24 h24.1).2 z hz; omega⟩
    rw [lenG_ok (by simp [lim]), M.ok_bind]
    have rows : ∀ row ∈ [r13.1, r15.1, List.map (fun (_ : Int) => (0 : Int)) r0] ++ [r20.1, r22.1, it24], RowOk kd (10 ^ 40 + 1) row := fun row hrow => by
      simp only [List.cons_append, List.nil_append, List.mem_cons, List.not_mem_nil, or_false] at hrow
      rcases hrow with rfl | rfl | rfl | rfl | rfl | rfl
      · exact h13.1.mono (by omega)
      · exact h15.1.mono (by omega)
      · exact hz.mono (by omega)
      · exact h20.1
      · exact h22.1.mono (by omega)
      · exact hsc.mono (by omega)
    refine ok_bind (ok_forT (fun _ : Unit => True) (fun row _ hrow _ => ?_) trivial) fun l hl => ?_
    · have hro := rows row hrow
      have gr : Sg (171 * 6) 1 (eT PyData.int row) := sg_ints (fun z hz => Nat.lt_of_le_of_lt (hro.2 z hz) (by decide)) (by rw [hro.1]; exact k6)
      have gb : Sg ((((171 * 6 + 1) * 2) + 1) * 5) 3 (eT (eP (eT PyData.int) (eT PyData.int)) r12.1) := sg_tuple (n := 5) (fun x hx => by
        obtain ⟨q, hq, rfl⟩ := List.mem_map.mp hx
        obtain ⟨z1, z2, z3, z4⟩ := hb q hq
        exact sg_pair (sg_ints (fun z hz => Nat.lt_of_le_of_lt (by have := z3 z hz; omega : z.natAbs ≤ 40) (by decide)) (by omega)) (sg_ints (fun z hz => Nat.lt_of_le_of_lt (by have := z4 z hz; omega : z.natAbs ≤ 40) (by decide)) (by omega))) (by rw [List.length_map]; omega)
      have gp := sg_pair gb (gr.mono (show 171 * 6 ≤ (((171 * 6 + 1) * 2) + 1) * 5 by decide) (show 1 ≤ 3 by decide))
      have ge : Sg ((((((171 * 6 + 1) * 2) + 1) * 5) + 1) * 2) 4 ((eP (eT (eP (eT PyData.int) (eT PyData.int))) (eT PyData.int)) (r12.1, row)) := gp
      have gk := sg_bool (w := 1) (d := 0) (keptZ r12.1 row)
      have gt := sg_bool (w := 1) (d := 0) (keptZ [] row)
      have k1' := kept_ok hb hro.1 k6 (show r12.1.length ≤ 100 by omega)
      have k2' := keeps_ok hb hro.1 k6 (show r12.1.length ≤ 100 by omega)
      have k3' := kept_ok (book := []) (kd := kd) (by simp) hro.1 k6 (by simp)
      have tt : Str.ofString "True" = (PyData.bool (keptZ [] row)).shown := by simp [keptZ, PyData.shown]
      rw [tt]
      simp only [ge.repr (by decide) (by decide), k1', k2', k3', gk.repr (by decide) (by decide), gt.repr (by decide) (by decide), M.ok_bind, gk.same, ge.same, gt.same, Bool.not_true, Bool.false_eq_true, if_false]
      exact ok_ret ⟨(), rfl, trivial⟩
    · obtain ⟨s, rfl, _⟩ := hl
      exact ok_ret ⟨_, rfl, h23.2.2⟩
  · obtain ⟨s, rfl, _⟩ := hl
    exact ok_ret rfl
theorem the_law (ns : List Int) (_ : ns.length ≤ 63) : ∃ outs, F_law [.d (.list (ns.map PyData.int))] = .ok (.d (.bool true)) outs := by
  have h := L_law ns
  rw [law_ok] at h
  exact ⟨_, h⟩
end BH.K20

set_option maxRecDepth 100000
set_option maxHeartbeats 4000000
namespace BH.K20
open PySem PySem.Spec PyProof.Rows L2
theorem all_mk {l : PySem.W.OpenLaw} {w : World} {K : PySem.W.Frag} {h : Heap} {mg : Str → Option Value} {fa f0 f1 f2 f3 f4 f5 f6 f7 f8 f9 f10 f11 f12 f13 f14 f15 f16 f17 f18 : Addr} (X : K.In h) (G : h.Ns mainGlobals mg) (hfa : mg "law" = some (.ref fa))
    {od0 an0 od1 an1 od2 an2 od3 an3 od4 an4 od5 an5 od6 an6 od7 an7 od8 an8 od9 an9 od10 an10 od11 an11 od12 an12 od13 an13 od14 an14 od15 an15 od16 an16 od17 an17 od18 an18 : Option Addr} {sl0 sl1 sl2 sl3 sl4 sl5 sl6 sl7 sl8 sl9 sl10 sl11 sl12 sl13 sl14 sl15 sl16 sl17 sl18 : Array (Option Value)} {oc0 kV0 dc0 pm0 cd0 ct0 oc1 kV1 dc1 pm1 cd1 ct1 oc2 kV2 dc2 pm2 cd2 ct2 oc3 kV3 dc3 pm3 cd3 ct3 oc4 kV4 dc4 pm4 cd4 ct4 oc5 kV5 dc5 pm5 cd5 ct5 oc6 kV6 dc6 pm6 cd6 ct6 oc7 kV7 dc7 pm7 cd7 ct7 oc8 kV8 dc8 pm8 cd8 ct8 oc9 kV9 dc9 pm9 cd9 ct9 oc10 kV10 dc10 pm10 cd10 ct10 oc11 kV11 dc11 pm11 cd11 ct11 oc12 kV12 dc12 pm12 cd12 ct12 oc13 kV13 dc13 pm13 cd13 ct13 oc14 kV14 dc14 pm14 cd14 ct14 oc15 kV15 dc15 pm15 cd15 ct15 oc16 kV16 dc16 pm16 cd16 ct16 oc17 kV17 dc17 pm17 cd17 ct17 oc18 kV18 dc18 pm18 cd18 ct18 : Value} 
    (a0 : PySem.W.nsIn K mainGlobals "_law_deck" = some (some (.ref f0))) (l0 : K.lookup f0 = some ⟨oc0, od0, .func (PySem.W.fnOf "_law_deck" "_law_deck" (defArgs s_law_deck) (defBody s_law_deck) (defScope s_law_deck) .none kV0 dc0 pm0 an0 cd0 ct0), sl0⟩) (c0 : PySem.W.codeIn K cd0 "_law_deck" = true) (k0 : PySem.W.keepIn K (.ref f0) = true)
    (a1 : PySem.W.nsIn K mainGlobals "_law_draw" = some (some (.ref f1))) (l1 : K.lookup f1 = some ⟨oc1, od1, .func (PySem.W.fnOf "_law_draw" "_law_draw" (defArgs s_law_draw) (defBody s_law_draw) (defScope s_law_draw) .none kV1 dc1 pm1 an1 cd1 ct1), sl1⟩) (c1 : PySem.W.codeIn K cd1 "_law_draw" = true) (k1 : PySem.W.keepIn K (.ref f1) = true)
    (a2 : PySem.W.nsIn K mainGlobals "_law_rank" = some (some (.ref f2))) (l2 : K.lookup f2 = some ⟨oc2, od2, .func (PySem.W.fnOf "_law_rank" "_law_rank" (defArgs s_law_rank) (defBody s_law_rank) (defScope s_law_rank) .none kV2 dc2 pm2 an2 cd2 ct2), sl2⟩) (c2 : PySem.W.codeIn K cd2 "_law_rank" = true) (k2 : PySem.W.keepIn K (.ref f2) = true)
    (a3 : PySem.W.nsIn K mainGlobals "_law_cut" = some (some (.ref f3))) (l3 : K.lookup f3 = some ⟨oc3, od3, .func (PySem.W.fnOf "_law_cut" "_law_cut" (defArgs s_law_cut) (defBody s_law_cut) (defScope s_law_cut) .none kV3 dc3 pm3 an3 cd3 ct3), sl3⟩) (c3 : PySem.W.codeIn K cd3 "_law_cut" = true) (k3 : PySem.W.keepIn K (.ref f3) = true)
    (a4 : PySem.W.nsIn K mainGlobals "_law_scale" = some (some (.ref f4))) (l4 : K.lookup f4 = some ⟨oc4, od4, .func (PySem.W.fnOf "_law_scale" "_law_scale" (defArgs s_law_scale) (defBody s_law_scale) (defScope s_law_scale) .none kV4 dc4 pm4 an4 cd4 ct4), sl4⟩) (c4 : PySem.W.codeIn K cd4 "_law_scale" = true) (k4 : PySem.W.keepIn K (.ref f4) = true)
    (a5 : PySem.W.nsIn K mainGlobals "_law_lot" = some (some (.ref f5))) (l5 : K.lookup f5 = some ⟨oc5, od5, .func (PySem.W.fnOf "_law_lot" "_law_lot" (defArgs s_law_lot) (defBody s_law_lot) (defScope s_law_lot) .none kV5 dc5 pm5 an5 cd5 ct5), sl5⟩) (c5 : PySem.W.codeIn K cd5 "_law_lot" = true) (k5 : PySem.W.keepIn K (.ref f5) = true)
    (a6 : PySem.W.nsIn K mainGlobals "_law_sums" = some (some (.ref f6))) (l6 : K.lookup f6 = some ⟨oc6, od6, .func (PySem.W.fnOf "_law_sums" "_law_sums" (defArgs s_law_sums) (defBody s_law_sums) (defScope s_law_sums) .none kV6 dc6 pm6 an6 cd6 ct6), sl6⟩) (c6 : PySem.W.codeIn K cd6 "_law_sums" = true) (k6 : PySem.W.keepIn K (.ref f6) = true)
    (a7 : PySem.W.nsIn K mainGlobals "_law_pick" = some (some (.ref f7))) (l7 : K.lookup f7 = some ⟨oc7, od7, .func (PySem.W.fnOf "_law_pick" "_law_pick" (defArgs s_law_pick) (defBody s_law_pick) (defScope s_law_pick) .none kV7 dc7 pm7 an7 cd7 ct7), sl7⟩) (c7 : PySem.W.codeIn K cd7 "_law_pick" = true) (k7 : PySem.W.keepIn K (.ref f7) = true)
    (a8 : PySem.W.nsIn K mainGlobals "_law_heap" = some (some (.ref f8))) (l8 : K.lookup f8 = some ⟨oc8, od8, .func (PySem.W.fnOf "_law_heap" "_law_heap" (defArgs s_law_heap) (defBody s_law_heap) (defScope s_law_heap) .none kV8 dc8 pm8 an8 cd8 ct8), sl8⟩) (c8 : PySem.W.codeIn K cd8 "_law_heap" = true) (k8 : PySem.W.keepIn K (.ref f8) = true)
    (a9 : PySem.W.nsIn K mainGlobals "_law_book" = some (some (.ref f9))) (l9 : K.lookup f9 = some ⟨oc9, od9, .func (PySem.W.fnOf "_law_book" "_law_book" (defArgs s_law_book) (defBody s_law_book) (defScope s_law_book) .none kV9 dc9 pm9 an9 cd9 ct9), sl9⟩) (c9 : PySem.W.codeIn K cd9 "_law_book" = true) (k9 : PySem.W.keepIn K (.ref f9) = true)
    (a10 : PySem.W.nsIn K mainGlobals "_law_sum_row" = some (some (.ref f10))) (l10 : K.lookup f10 = some ⟨oc10, od10, .func (PySem.W.fnOf "_law_sum_row" "_law_sum_row" (defArgs s_law_sum_row) (defBody s_law_sum_row) (defScope s_law_sum_row) .none kV10 dc10 pm10 an10 cd10 ct10), sl10⟩) (c10 : PySem.W.codeIn K cd10 "_law_sum_row" = true) (k10 : PySem.W.keepIn K (.ref f10) = true)
    (a11 : PySem.W.nsIn K mainGlobals "_law_number_row" = some (some (.ref f11))) (l11 : K.lookup f11 = some ⟨oc11, od11, .func (PySem.W.fnOf "_law_number_row" "_law_number_row" (defArgs s_law_number_row) (defBody s_law_number_row) (defScope s_law_number_row) .none kV11 dc11 pm11 an11 cd11 ct11), sl11⟩) (c11 : PySem.W.codeIn K cd11 "_law_number_row" = true) (k11 : PySem.W.keepIn K (.ref f11) = true)
    (a12 : PySem.W.nsIn K mainGlobals "_law_bent_row" = some (some (.ref f12))) (l12 : K.lookup f12 = some ⟨oc12, od12, .func (PySem.W.fnOf "_law_bent_row" "_law_bent_row" (defArgs s_law_bent_row) (defBody s_law_bent_row) (defScope s_law_bent_row) .none kV12 dc12 pm12 an12 cd12 ct12), sl12⟩) (c12 : PySem.W.codeIn K cd12 "_law_bent_row" = true) (k12 : PySem.W.keepIn K (.ref f12) = true)
    (a13 : PySem.W.nsIn K mainGlobals "sum_by" = some (some (.ref f13))) (l13 : K.lookup f13 = some ⟨oc13, od13, .func (PySem.W.fnOf "sum_by" "sum_by" (defArgs s_sum_by) (defBody s_sum_by) (defScope s_sum_by) .none kV13 dc13 pm13 an13 cd13 ct13), sl13⟩) (c13 : PySem.W.codeIn K cd13 "sum_by" = true) (k13 : PySem.W.keepIn K (.ref f13) = true)
    (a14 : PySem.W.nsIn K mainGlobals "changes_of_book" = some (some (.ref f14))) (l14 : K.lookup f14 = some ⟨oc14, od14, .func (PySem.W.fnOf "changes_of_book" "changes_of_book" (defArgs s_changes_of_book) (defBody s_changes_of_book) (defScope s_changes_of_book) .none kV14 dc14 pm14 an14 cd14 ct14), sl14⟩) (c14 : PySem.W.codeIn K cd14 "changes_of_book" = true) (k14 : PySem.W.keepIn K (.ref f14) = true)
    (a15 : PySem.W.nsIn K mainGlobals "is_kept" = some (some (.ref f15))) (l15 : K.lookup f15 = some ⟨oc15, od15, .func (PySem.W.fnOf "is_kept" "is_kept" (defArgs s_is_kept) (defBody s_is_kept) (defScope s_is_kept) .none kV15 dc15 pm15 an15 cd15 ct15), sl15⟩) (c15 : PySem.W.codeIn K cd15 "is_kept" = true) (k15 : PySem.W.keepIn K (.ref f15) = true)
    (a16 : PySem.W.nsIn K mainGlobals "_law_dot" = some (some (.ref f16))) (l16 : K.lookup f16 = some ⟨oc16, od16, .func (PySem.W.fnOf "_law_dot" "_law_dot" (defArgs s_law_dot) (defBody s_law_dot) (defScope s_law_dot) .none kV16 dc16 pm16 an16 cd16 ct16), sl16⟩) (c16 : PySem.W.codeIn K cd16 "_law_dot" = true) (k16 : PySem.W.keepIn K (.ref f16) = true)
    (a17 : PySem.W.nsIn K mainGlobals "_law_keeps" = some (some (.ref f17))) (l17 : K.lookup f17 = some ⟨oc17, od17, .func (PySem.W.fnOf "_law_keeps" "_law_keeps" (defArgs s_law_keeps) (defBody s_law_keeps) (defScope s_law_keeps) .none kV17 dc17 pm17 an17 cd17 ct17), sl17⟩) (c17 : PySem.W.codeIn K cd17 "_law_keeps" = true) (k17 : PySem.W.keepIn K (.ref f17) = true)
    (a18 : PySem.W.nsIn K mainGlobals "law" = some (some (.ref f18))) (l18 : K.lookup f18 = some ⟨oc18, od18, .func (PySem.W.fnOf "law" "law" (defArgs s_law) (defBody s_law) (defScope s_law) .none kV18 dc18 pm18 an18 cd18 ct18), sl18⟩) (c18 : PySem.W.codeIn K cd18 "law" = true) (k18 : PySem.W.keepIn K (.ref f18) = true)
    (z_len : PySem.W.nsIn K mainGlobals "len" = some none) (z_abs : PySem.W.nsIn K mainGlobals "abs" = some none) (z_int : PySem.W.nsIn K mainGlobals "int" = some none) (z_list : PySem.W.nsIn K mainGlobals "list" = some none) (z_range : PySem.W.nsIn K mainGlobals "range" = some none) (z_zip : PySem.W.nsIn K mainGlobals "zip" = some none) (z_tuple : PySem.W.nsIn K mainGlobals "tuple" = some none) (z_sum : PySem.W.nsIn K mainGlobals "sum" = some none) (z_min : PySem.W.nsIn K mainGlobals "min" = some none) (z_max : PySem.W.nsIn K mainGlobals "max" = some none) (z_all : PySem.W.nsIn K mainGlobals "all" = some none) (z_repr : PySem.W.nsIn K mainGlobals "repr" = some none) :
    ∃ fd : FuncData, (∀ (s : Shared) (v : Value), BindsTo s fd ⟨[v], []⟩ [("script", v)]) ∧ ∀ base : Heap, K.In base → base.Ns mainGlobals mg → FnG l.prog w K mg base 4 fa fd ["script"] (spF mg K 1 F_law) := by
  have e := hfa.symm.trans (PySem.W.mg_of X G a18)
  cases e
  exact ⟨PySem.W.fnOf "law" "law" (defArgs s_law) (defBody s_law) (defScope s_law) .none kV18 dc18 pm18 an18 cd18 ct18, fun s v => .of_eq rfl, fun base _ _ => G_law { z_len := PySem.W.mg_none_of X G z_len, z_abs := PySem.W.mg_none_of X G z_abs, z_int := PySem.W.mg_none_of X G z_int, z_list := PySem.W.mg_none_of X G z_list, z_range := PySem.W.mg_none_of X G z_range, z_zip := PySem.W.mg_none_of X G z_zip, z_tuple := PySem.W.mg_none_of X G z_tuple, z_sum := PySem.W.mg_none_of X G z_sum, z_min := PySem.W.mg_none_of X G z_min, z_max := PySem.W.mg_none_of X G z_max, z_all := PySem.W.mg_none_of X G z_all, z_repr := PySem.W.mg_none_of X G z_repr, a_law_deck := f0, d_law_deck := _, g_law_deck := PySem.W.mg_of X G a0, F_law_deck := fun_mk (st := s_law_deck) l0 c0 k0, b_law_deck := (fun_mk (st := s_law_deck) l0 c0 k0).binds fun _ _ _ _ _ _ us hl => match us, hl with | [_], _ => rfl, a_law_draw := f1, d_law_draw := _, g_law_draw := PySem.W.mg_of X G a1, F_law_draw := fun_mk (st := s_law_draw) l1 c1 k1, b_law_draw := (fun_mk (st := s_law_draw) l1 c1 k1).binds fun _ _ _ _ _ _ us hl => match us, hl with | [_, _], _ => rfl, a_law_rank := f2, d_law_rank := _, g_law_rank := PySem.W.mg_of X G a2, F_law_rank := fun_mk (st := s_law_rank) l2 c2 k2, b_law_rank := (fun_mk (st := s_law_rank) l2 c2 k2).binds fun _ _ _ _ _ _ us hl => match us, hl with | [_], _ => rfl, a_law_cut := f3, d_law_cut := _, g_law_cut := PySem.W.mg_of X G a3, F_law_cut := fun_mk (st := s_law_cut) l3 c3 k3, b_law_cut := (fun_mk (st := s_law_cut) l3 c3 k3).binds fun _ _ _ _ _ _ us hl => match us, hl with | [_], _ => rfl, a_law_scale := f4, d_law_scale := _, g_law_scale := PySem.W.mg_of X G a4, F_law_scale := fun_mk (st := s_law_scale) l4 c4 k4, b_law_scale := (fun_mk (st := s_law_scale) l4 c4 k4).binds fun _ _ _ _ _ _ us hl => match us, hl with | [_], _ => rfl, a_law_lot := f5, d_law_lot := _, g_law_lot := PySem.W.mg_of X G a5, F_law_lot := fun_mk (st := s_law_lot) l5 c5 k5, b_law_lot := (fun_mk (st := s_law_lot) l5 c5 k5).binds fun _ _ _ _ _ _ us hl => match us, hl with | [_, _], _ => rfl, a_law_sums := f6, d_law_sums := _, g_law_sums := PySem.W.mg_of X G a6, F_law_sums := fun_mk (st := s_law_sums) l6 c6 k6, b_law_sums := (fun_mk (st := s_law_sums) l6 c6 k6).binds fun _ _ _ _ _ _ us hl => match us, hl with | [_, _], _ => rfl, a_law_pick := f7, d_law_pick := _, g_law_pick := PySem.W.mg_of X G a7, F_law_pick := fun_mk (st := s_law_pick) l7 c7 k7, b_law_pick := (fun_mk (st := s_law_pick) l7 c7 k7).binds fun _ _ _ _ _ _ us hl => match us, hl with | [_, _], _ => rfl, a_law_heap := f8, d_law_heap := _, g_law_heap := PySem.W.mg_of X G a8, F_law_heap := fun_mk (st := s_law_heap) l8 c8 k8, b_law_heap := (fun_mk (st := s_law_heap) l8 c8 k8).binds fun _ _ _ _ _ _ us hl => match us, hl with | [_, _, _], _ => rfl, a_law_book := f9, d_law_book := _, g_law_book := PySem.W.mg_of X G a9, F_law_book := fun_mk (st := s_law_book) l9 c9 k9, b_law_book := (fun_mk (st := s_law_book) l9 c9 k9).binds fun _ _ _ _ _ _ us hl => match us, hl with | [_, _, _], _ => rfl, a_law_sum_row := f10, d_law_sum_row := _, g_law_sum_row := PySem.W.mg_of X G a10, F_law_sum_row := fun_mk (st := s_law_sum_row) l10 c10 k10, b_law_sum_row := (fun_mk (st := s_law_sum_row) l10 c10 k10).binds fun _ _ _ _ _ _ us hl => match us, hl with | [_, _], _ => rfl, a_law_number_row := f11, d_law_number_row := _, g_law_number_row := PySem.W.mg_of X G a11, F_law_number_row := fun_mk (st := s_law_number_row) l11 c11 k11, b_law_number_row := (fun_mk (st := s_law_number_row) l11 c11 k11).binds fun _ _ _ _ _ _ us hl => match us, hl with | [_, _], _ => rfl, a_law_bent_row := f12, d_law_bent_row := _, g_law_bent_row := PySem.W.mg_of X G a12, F_law_bent_row := fun_mk (st := s_law_bent_row) l12 c12 k12, b_law_bent_row := (fun_mk (st := s_law_bent_row) l12 c12 k12).binds fun _ _ _ _ _ _ us hl => match us, hl with | [_, _], _ => rfl, a_sum_by := f13, d_sum_by := _, g_sum_by := PySem.W.mg_of X G a13, F_sum_by := fun_mk (st := s_sum_by) l13 c13 k13, b_sum_by := (fun_mk (st := s_sum_by) l13 c13 k13).binds fun _ _ _ _ _ _ us hl => match us, hl with | [_, _], _ => rfl, a_changes_of_book := f14, d_changes_of_book := _, g_changes_of_book := PySem.W.mg_of X G a14, F_changes_of_book := fun_mk (st := s_changes_of_book) l14 c14 k14, b_changes_of_book := (fun_mk (st := s_changes_of_book) l14 c14 k14).binds fun _ _ _ _ _ _ us hl => match us, hl with | [_], _ => rfl, a_is_kept := f15, d_is_kept := _, g_is_kept := PySem.W.mg_of X G a15, F_is_kept := fun_mk (st := s_is_kept) l15 c15 k15, b_is_kept := (fun_mk (st := s_is_kept) l15 c15 k15).binds fun _ _ _ _ _ _ us hl => match us, hl with | [_, _], _ => rfl, a_law_dot := f16, d_law_dot := _, g_law_dot := PySem.W.mg_of X G a16, F_law_dot := fun_mk (st := s_law_dot) l16 c16 k16, b_law_dot := (fun_mk (st := s_law_dot) l16 c16 k16).binds fun _ _ _ _ _ _ us hl => match us, hl with | [_, _], _ => rfl, a_law_keeps := f17, d_law_keeps := _, g_law_keeps := PySem.W.mg_of X G a17, F_law_keeps := fun_mk (st := s_law_keeps) l17 c17 k17, b_law_keeps := (fun_mk (st := s_law_keeps) l17 c17 k17).binds fun _ _ _ _ _ _ us hl => match us, hl with | [_, _], _ => rfl, a_law := fa, d_law := _, g_law := PySem.W.mg_of X G a18, F_law := fun_mk (st := s_law) l18 c18 k18, b_law := (fun_mk (st := s_law) l18 c18 k18).binds fun _ _ _ _ _ _ us hl => match us, hl with | [_], _ => rfl }⟩
end BH.K20

open PySem PySem.W PyProof.Rows
set_option maxRecDepth 100000 in
set_option maxHeartbeats 0 in
theorem PySem.Challenge.cw_barterheaps_k20_rows_kept_holds : PySem.Challenge.rw_barterheaps_k20_rows_kept.Holds := by
  w_on; o_law; k_head; (case hw => w_witness2)
  k_fill
  refine BH.walk_data (l := PySem.Challenge.rw_barterheaps_k20_rows_kept) (n := 63) (k := 4) (x := "script") (F := BH.K20.F_law) rfl (by decide) rfl ⟨rfl, by decide, by decide⟩ (fun w h Y => PySem.W.kIn_of Y) ?F BH.K20.the_law
  case F =>
    intro w mg fa h KX G hmg
    refine' BH.K20.all_mk KX G hmg ?a0 ?l0 ?c0 ?k0 ?a1 ?l1 ?c1 ?k1 ?a2 ?l2 ?c2 ?k2 ?a3 ?l3 ?c3 ?k3 ?a4 ?l4 ?c4 ?k4 ?a5 ?l5 ?c5 ?k5 ?a6 ?l6 ?c6 ?k6 ?a7 ?l7 ?c7 ?k7 ?a8 ?l8 ?c8 ?k8 ?a9 ?l9 ?c9 ?k9 ?a10 ?l10 ?c10 ?k10 ?a11 ?l11 ?c11 ?k11 ?a12 ?l12 ?c12 ?k12 ?a13 ?l13 ?c13 ?k13 ?a14 ?l14 ?c14 ?k14 ?a15 ?l15 ?c15 ?k15 ?a16 ?l16 ?c16 ?k16 ?a17 ?l17 ?c17 ?k17 ?a18 ?l18 ?c18 ?k18 ?z_len ?z_abs ?z_int ?z_list ?z_range ?z_zip ?z_tuple ?z_sum ?z_min ?z_max ?z_all ?z_repr
    (case a0 => k_is)
    (case l0 => k_is)
    (case c0 => k_is)
    (case k0 => k_is)
    (case a1 => k_is)
    (case l1 => k_is)
    (case c1 => k_is)
    (case k1 => k_is)
    (case a2 => k_is)
    (case l2 => k_is)
    (case c2 => k_is)
    (case k2 => k_is)
    (case a3 => k_is)
    (case l3 => k_is)
    (case c3 => k_is)
    (case k3 => k_is)
    (case a4 => k_is)
    (case l4 => k_is)
    (case c4 => k_is)
    (case k4 => k_is)
    (case a5 => k_is)
    (case l5 => k_is)
    (case c5 => k_is)
    (case k5 => k_is)
    (case a6 => k_is)
    (case l6 => k_is)
    (case c6 => k_is)
    (case k6 => k_is)
    (case a7 => k_is)
    (case l7 => k_is)
    (case c7 => k_is)
    (case k7 => k_is)
    (case a8 => k_is)
    (case l8 => k_is)
    (case c8 => k_is)
    (case k8 => k_is)
    (case a9 => k_is)
    (case l9 => k_is)
    (case c9 => k_is)
    (case k9 => k_is)
    (case a10 => k_is)
    (case l10 => k_is)
    (case c10 => k_is)
    (case k10 => k_is)
    (case a11 => k_is)
    (case l11 => k_is)
    (case c11 => k_is)
    (case k11 => k_is)
    (case a12 => k_is)
    (case l12 => k_is)
    (case c12 => k_is)
    (case k12 => k_is)
    (case a13 => k_is)
    (case l13 => k_is)
    (case c13 => k_is)
    (case k13 => k_is)
    (case a14 => k_is)
    (case l14 => k_is)
    (case c14 => k_is)
    (case k14 => k_is)
    (case a15 => k_is)
    (case l15 => k_is)
    (case c15 => k_is)
    (case k15 => k_is)
    (case a16 => k_is)
    (case l16 => k_is)
    (case c16 => k_is)
    (case k16 => k_is)
    (case a17 => k_is)
    (case l17 => k_is)
    (case c17 => k_is)
    (case k17 => k_is)
    (case a18 => k_is)
    (case l18 => k_is)
    (case c18 => k_is)
    (case k18 => k_is)
    (case z_len => k_is)
    (case z_abs => k_is)
    (case z_int => k_is)
    (case z_list => k_is)
    (case z_range => k_is)
    (case z_zip => k_is)
    (case z_tuple => k_is)
    (case z_sum => k_is)
    (case z_min => k_is)
    (case z_max => k_is)
    (case z_all => k_is)
    (case z_repr => k_is)

